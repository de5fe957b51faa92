import PyProof.Rows.All
import Wide.All
import OpenK.AllK
import Wide.FinOn
import HandS.ForMost
import HandS.Evl
import HandS.Exc
import HandS.ExcOwn
import HandS.TryOnly
import HandS.WordsExc
import HandS.IsInst
import HandS.TupAny
import HandS.Text
import HandS.Comp
import HandS.ExcIs
import HandS.Style
import HandS.WordsDict
import HandS.More
import HandS.SortRule
import HandS.SortKw
import KE.KSortTupAny
import PySem.Challenge.RW_pagepart_k67_words_read
set_option Elab.async false
set_option linter.all false
set_option maxRecDepth 100000
set_option autoImplicit false
set_option maxHeartbeats 1000000
/-! SV: readings over plain data. A frozen heap F (only grows, holds all plain data), lists that a frame owns, slots that hold data. -/
namespace SV
open PySem PySem.Spec L2

abbrev Fr := PySem.W.Frag
end SV
namespace Evl.Ex
open PySem L2 SV
theorem sl {K : SV.Fr} {H H' : Hp} {a : Addr} {xs : List V} (e : Evl.Ex H H') (h : SqL K H a xs) : SqL K H' a xs := Evl.ex_l e h
theorem stt {K : SV.Fr} {H H' : Hp} {a : Addr} {xs : List V} (e : Evl.Ex H H') (h : SqT K H a xs) : SqT K H' a xs := Evl.ex_t e h
theorem free {H H' : Hp} {p : Addr} (e : Evl.Ex H H') (h : H' p = none) : H p = none := Evl.fresh_back e h
end Evl.Ex
namespace SV
open PySem PySem.Spec L2
open Evl (Ex)

/-! ### plain data in a heap -/
mutual
inductive Rp (K : Fr) (F : Hp) : V → PyData → Prop
  | non : Rp K F .non .none
  | bl (b : Bool) : Rp K F (.bl b) (.bool b)
  | int (i : Int) : Rp K F (.int i) (.int i)
  | str (x : Str) : Rp K F (.str x) (.str x)
  | lst {a : Addr} {vs : List V} {xs : List PyData} : F a = some (.lst vs) → RpA K F vs xs → Rp K F (.ref a) (.list xs)
  | tup {a : Addr} {vs : List V} {xs : List PyData} : SqT K F a vs → RpA K F vs xs → Rp K F (.ref a) (.tuple xs)
  | dct {a : Addr} : F a = some (.dK []) → Rp K F (.ref a) (.dict [])
inductive RpA (K : Fr) (F : Hp) : List V → List PyData → Prop
  | nil : RpA K F [] []
  | cons {v : V} {vs : List V} {d : PyData} {ds : List PyData} : Rp K F v d → RpA K F vs ds → RpA K F (v :: vs) (d :: ds)
end
section
variable {K : Fr} {F F' H H' : Hp}
mutual
theorem Rp.mono (e : Ex F F') : ∀ {d : PyData} {v : V}, Rp K F v d → Rp K F' v d
  | .none, _, .non => .non
  | .bool _, _, .bl b => .bl b
  | .int _, _, .int b => .int b
  | .str _, _, .str b => .str b
  | .list _, _, .lst h r => .lst (e _ _ h) (RpA.mono e r)
  | .tuple _, _, .tup h r => .tup (e.stt h) (RpA.mono e r)
  | .dict _, _, .dct h => .dct (e _ _ h)
theorem RpA.mono (e : Ex F F') : ∀ {ds : List PyData} {vs : List V}, RpA K F vs ds → RpA K F' vs ds
  | [], _, .nil => .nil
  | _ :: _, _, .cons h r => .cons (Rp.mono e h) (RpA.mono e r)
end
theorem RpA.length : ∀ {ds : List PyData} {vs : List V}, RpA K F vs ds → vs.length = ds.length
  | [], _, .nil => rfl
  | _ :: _, _, .cons _ r => congrArg (· + 1) (RpA.length r)
theorem RpA.get : ∀ {ds : List PyData} {vs : List V} {i : Nat} {v : V}, RpA K F vs ds → vs[i]? = some v → ∃ d, ds[i]? = some d ∧ Rp K F v d
  | [], _, _, _, .nil, h => by simp at h
  | d :: _, _, 0, _, .cons q _, h => by
    have e := Option.some.inj h
    subst e
    exact ⟨d, rfl, q⟩
  | _ :: _, _, i + 1, _, .cons _ r, h => RpA.get (i := i) r h
theorem RpA.get' : ∀ {ds : List PyData} {vs : List V} {i : Nat} {d : PyData}, RpA K F vs ds → ds[i]? = some d → ∃ v, vs[i]? = some v ∧ Rp K F v d
  | [], _, _, _, .nil, h => by simp at h
  | d :: _, v :: _, 0, _, .cons q _, h => by
    have e := Option.some.inj h
    subst e
    exact ⟨v, rfl, q⟩
  | _ :: _, _ :: _, i + 1, _, .cons _ r, h => RpA.get' (i := i) r h
theorem RpA.append : ∀ {ds es : List PyData} {vs ws : List V}, RpA K F vs ds → RpA K F ws es → RpA K F (vs ++ ws) (ds ++ es)
  | [], _, _, _, .nil, s => s
  | _ :: _, _, _, _, .cons h r, s => .cons h (RpA.append r s)
theorem RpA.take : ∀ {ds : List PyData} {vs : List V} (n : Nat), RpA K F vs ds → RpA K F (vs.take n) (ds.take n)
  | _, _, 0, _ => .nil
  | [], _, _ + 1, .nil => .nil
  | _ :: _, _, n + 1, .cons h r => .cons h (RpA.take n r)
theorem RpA.drop : ∀ {ds : List PyData} {vs : List V} (n : Nat), RpA K F vs ds → RpA K F (vs.drop n) (ds.drop n)
  | _, _, 0, r => r
  | [], _, _ + 1, .nil => .nil
  | _ :: _, _, n + 1, .cons _ r => RpA.drop n r
theorem RpA.set : ∀ {ds : List PyData} {vs : List V} {v : V} {d : PyData} (i : Nat), RpA K F vs ds → Rp K F v d → RpA K F (vs.set i v) (ds.set i d)
  | [], _, _, _, _, .nil, _ => .nil
  | _ :: _, _, _, _, 0, .cons _ r, q => .cons q r
  | _ :: _, _, _, _, i + 1, .cons h r, q => .cons h (RpA.set i r q)
theorem RpA.dropLast : ∀ {ds : List PyData} {vs : List V}, RpA K F vs ds → RpA K F vs.dropLast ds.dropLast := fun {ds vs} r => by
  rw [List.dropLast_eq_take, List.dropLast_eq_take, r.length]
  exact r.take _
theorem RpA.erase : ∀ {ds : List PyData} {vs : List V} (i : Nat), RpA K F vs ds → RpA K F (vs.eraseIdx i) (ds.eraseIdx i)
  | [], _, _, .nil => .nil
  | _ :: _, _, 0, .cons _ r => r
  | _ :: _, _, i + 1, .cons h r => .cons h (RpA.erase i r)
theorem RpA.reverse {ds : List PyData} {vs : List V} (r : RpA K F vs ds) : RpA K F vs.reverse ds.reverse := by
  induction ds generalizing vs with
  | nil => cases r; exact .nil
  | cons d ds ih =>
    cases r with
    | cons h r =>
      rw [List.reverse_cons, List.reverse_cons]
      exact (ih r).append (.cons h .nil)
theorem RpA.rep {ds : List PyData} {vs : List V} (r : RpA K F vs ds) : ∀ k : Nat, RpA K F (List.replicate k vs).flatten (List.replicate k ds).flatten
  | 0 => .nil
  | k + 1 => by
    rw [List.replicate_succ, List.replicate_succ, List.flatten_cons, List.flatten_cons]
    exact r.append (RpA.rep r k)
/-! scalars -/
theorem Rp.int_inv {v : V} {i : Int} (h : Rp K F v (.int i)) : v = .int i := by cases h; rfl
theorem Rp.bl_inv {v : V} {i : Bool} (h : Rp K F v (.bool i)) : v = .bl i := by cases h; rfl
theorem Rp.str_inv {v : V} {i : Str} (h : Rp K F v (.str i)) : v = .str i := by cases h; rfl
theorem Rp.non_inv {v : V} (h : Rp K F v .none) : v = .non := by cases h; rfl
theorem RpA.ints : ∀ {ns : List Int} {vs : List V}, RpA K F vs (ns.map .int) → vs = ns.map V.int
  | [], _, .nil => rfl
  | n :: ns, _, .cons h r => by rw [h.int_inv, RpA.ints (ns := ns) r, List.map_cons]
theorem RpA.strs : ∀ {ns : List Str} {vs : List V}, RpA K F vs (ns.map .str) → vs = ns.map V.str
  | [], _, .nil => rfl
  | n :: ns, _, .cons h r => by rw [h.str_inv, RpA.strs (ns := ns) r, List.map_cons]
theorem RpA.bls : ∀ {ns : List Bool} {vs : List V}, RpA K F vs (ns.map .bool) → vs = ns.map V.bl
  | [], _, .nil => rfl
  | n :: ns, _, .cons h r => by rw [h.bl_inv, RpA.bls (ns := ns) r, List.map_cons]
theorem RpA.of_ints : ∀ (ns : List Int), RpA K F (ns.map V.int) (ns.map .int)
  | [] => .nil
  | n :: ns => .cons (.int n) (RpA.of_ints ns)
theorem RpA.of_strs : ∀ (ns : List Str), RpA K F (ns.map V.str) (ns.map .str)
  | [] => .nil
  | n :: ns => .cons (.str n) (RpA.of_strs ns)
/-! no dict within: the library's data -/
mutual
def noD : PyData → Bool
  | .list xs => noDs xs
  | .tuple xs => noDs xs
  | .dict _ => false
  | _ => true
def noDs : List PyData → Bool
  | [] => true
  | x :: xs => noD x && noDs xs
end
mutual
theorem Rp.dp (e : Ex F H) : ∀ {d : PyData} {v : V}, Rp K F v d → noD d = true → Dp K H v d
  | .none, _, .non, _ => .non
  | .bool _, _, .bl b, _ => .bl b
  | .int _, _, .int b, _ => .int b
  | .str _, _, .str b, _ => .str b
  | .list _, _, .lst h r, n => .lst (.inl (.inl (e _ _ h))) (RpA.dp e r (by unfold noD at n; exact n))
  | .tuple _, _, .tup h r, n => .tup (e.stt h) (RpA.dp e r (by unfold noD at n; exact n))
  | .dict _, _, .dct h, n => by unfold noD at n; cases n
theorem RpA.dp (e : Ex F H) : ∀ {ds : List PyData} {vs : List V}, RpA K F vs ds → noDs ds = true → DpAll K H vs ds
  | [], _, .nil, _ => .nil
  | _ :: _, _, .cons h r, n => by
    unfold noDs at n
    have n' := Bool.and_eq_true_iff.mp n
    exact .cons (Rp.dp e h n'.1) (RpA.dp e r n'.2)
end
end

/-! ### objects that a frame owns, as a tree with their addresses -/
inductive OT where
  | d (x : PyData)
  | lst (a : Addr) (ts : List OT)
  | tup (a : Addr) (ts : List OT)
  | dct (a : Addr) (ks : List Key) (ts : List OT)
mutual
def OT.fp : OT → List Addr
  | .d _ => []
  | .lst a ts => a :: fps ts
  | .tup a ts => a :: fps ts
  | .dct a _ ts => a :: fps ts
def fps : List OT → List Addr
  | [] => []
  | t :: ts => t.fp ++ fps ts
end
mutual
def OT.data : OT → PyData
  | .d x => x
  | .lst _ ts => .list (datas ts)
  | .tup _ ts => .tuple (datas ts)
  | .dct _ _ _ => .dict []
def datas : List OT → List PyData
  | [] => []
  | t :: ts => t.data :: datas ts
end
mutual
def OT.isD : OT → Bool
  | .d _ => true
  | .lst _ ts => areD ts
  | .tup _ ts => areD ts
  | .dct _ _ _ => false
def areD : List OT → Bool
  | [] => true
  | t :: ts => t.isD && areD ts
end
mutual
inductive Ot (K : Fr) (F H : Hp) : V → OT → Prop
  | d {v : V} {x : PyData} : Rp K F v x → Ot K F H v (.d x)
  | lst {a : Addr} {vs : List V} {ts : List OT} : F a = none → H a = some (.lst vs) → OtA K F H vs ts → Ot K F H (.ref a) (.lst a ts)
  | tup {a : Addr} {vs : List V} {ts : List OT} : F a = none → H a = some (.tup vs) → OtA K F H vs ts → Ot K F H (.ref a) (.tup a ts)
  | dct {a : Addr} {ks : List Key} {vs : List V} {ts : List OT} : F a = none → H a = some (.dK (ks.zip vs)) → ks.length = ts.length → OtA K F H vs ts → Ot K F H (.ref a) (.dct a ks ts)
inductive OtA (K : Fr) (F H : Hp) : List V → List OT → Prop
  | nil : OtA K F H [] []
  | cons {v : V} {vs : List V} {t : OT} {ts : List OT} : Ot K F H v t → OtA K F H vs ts → OtA K F H (v :: vs) (t :: ts)
end
section
variable {K : Fr} {F F' H H' : Hp}
theorem fps_map_d : ∀ xs : List PyData, fps (xs.map .d) = []
  | [] => rfl
  | _ :: xs => fps_map_d xs
theorem datas_map_d : ∀ xs : List PyData, datas (xs.map .d) = xs
  | [] => rfl
  | x :: xs => congrArg (x :: ·) (datas_map_d xs)
theorem areD_map_d : ∀ xs : List PyData, areD (xs.map .d) = true
  | [] => rfl
  | _ :: xs => areD_map_d xs
theorem fps_app : ∀ xs ys : List OT, fps (xs ++ ys) = fps xs ++ fps ys
  | [], _ => rfl
  | x :: xs, ys => by
    show x.fp ++ fps (xs ++ ys) = _
    rw [fps_app xs ys, ← List.append_assoc]
    rfl
theorem datas_app : ∀ xs ys : List OT, datas (xs ++ ys) = datas xs ++ datas ys
  | [], _ => rfl
  | x :: xs, ys => congrArg (x.data :: ·) (datas_app xs ys)
theorem areD_app : ∀ xs ys : List OT, areD (xs ++ ys) = (areD xs && areD ys)
  | [], _ => rfl
  | x :: xs, ys => by
    show (x.isD && areD (xs ++ ys)) = _
    rw [areD_app xs ys, ← Bool.and_assoc]
    rfl
theorem datas_len : ∀ ts : List OT, (datas ts).length = ts.length
  | [] => rfl
  | _ :: ts => congrArg (· + 1) (datas_len ts)
theorem datas_eq : ∀ ts : List OT, datas ts = ts.map OT.data
  | [] => rfl
  | t :: ts => congrArg (t.data :: ·) (datas_eq ts)
theorem fp_sub {t : OT} {ts : List OT} (h : t ∈ ts) {a : Addr} (ha : a ∈ t.fp) : a ∈ fps ts := by
  induction ts with
  | nil => cases h
  | cons u us ih =>
    rcases List.mem_cons.mp h with rfl | h
    · exact List.mem_append_left _ ha
    · exact List.mem_append_right _ (ih h)
theorem fps_in {ts : List OT} {a : Addr} (ha : a ∈ fps ts) : ∃ t, t ∈ ts ∧ a ∈ t.fp := by
  induction ts with
  | nil => cases ha
  | cons u us ih =>
    rcases List.mem_append.mp ha with h | h
    · exact ⟨u, List.mem_cons_self, h⟩
    · obtain ⟨t, h1, h2⟩ := ih h
      exact ⟨t, List.mem_cons_of_mem _ h1, h2⟩
mutual
theorem Ot.mono (ef : Ex F F') : ∀ {t : OT} {v : V}, Ot K F H v t → (∀ a, a ∈ t.fp → F' a = none ∧ H' a = H a) → Ot K F' H' v t
  | .d _, _, .d h, _ => .d (Rp.mono ef h)
  | .lst a _, _, .lst h1 h2 h3, e => .lst (e a List.mem_cons_self).1 ((e a List.mem_cons_self).2.trans h2) (OtA.mono ef h3 fun b hb => e b (List.mem_cons_of_mem _ hb))
  | .tup a _, _, .tup h1 h2 h3, e => .tup (e a List.mem_cons_self).1 ((e a List.mem_cons_self).2.trans h2) (OtA.mono ef h3 fun b hb => e b (List.mem_cons_of_mem _ hb))
  | .dct a _ _, _, .dct h1 h2 hl h3, e => .dct (e a List.mem_cons_self).1 ((e a List.mem_cons_self).2.trans h2) hl (OtA.mono ef h3 fun b hb => e b (List.mem_cons_of_mem _ hb))
theorem OtA.mono (ef : Ex F F') : ∀ {ts : List OT} {vs : List V}, OtA K F H vs ts → (∀ a, a ∈ fps ts → F' a = none ∧ H' a = H a) → OtA K F' H' vs ts
  | [], _, .nil, _ => .nil
  | _ :: _, _, .cons h r, e => .cons (Ot.mono ef h fun b hb => e b (List.mem_append_left _ hb)) (OtA.mono ef r fun b hb => e b (List.mem_append_right _ hb))
end
mutual
theorem Ot.live : ∀ {t : OT} {v : V}, Ot K F H v t → ∀ {a : Addr}, a ∈ t.fp → F a = none ∧ ∃ o, H a = some o
  | .d _, _, .d _, _, ha => nomatch ha
  | .lst _ _, _, .lst h1 h2 h3, _, ha => (List.mem_cons.mp ha).elim (fun e => by subst e; exact ⟨h1, _, h2⟩) fun h => OtA.live h3 h
  | .tup _ _, _, .tup h1 h2 h3, _, ha => (List.mem_cons.mp ha).elim (fun e => by subst e; exact ⟨h1, _, h2⟩) fun h => OtA.live h3 h
  | .dct _ _ _, _, .dct h1 h2 _ h3, _, ha => (List.mem_cons.mp ha).elim (fun e => by subst e; exact ⟨h1, _, h2⟩) fun h => OtA.live h3 h
theorem OtA.live : ∀ {ts : List OT} {vs : List V}, OtA K F H vs ts → ∀ {a : Addr}, a ∈ fps ts → F a = none ∧ ∃ o, H a = some o
  | [], _, .nil, _, ha => nomatch ha
  | _ :: _, _, .cons h r, _, ha => (List.mem_append.mp ha).elim (fun k => Ot.live h k) fun k => OtA.live r k
end
mutual
theorem Ot.rp (ef : Ex F F') : ∀ {t : OT} {v : V}, Ot K F H v t → t.isD = true → (∀ a, a ∈ t.fp → F' a = H a) → Rp K F' v t.data
  | .d _, _, .d h, _, _ => by
    unfold OT.data
    exact Rp.mono ef h
  | .lst a _, _, .lst h1 h2 h3, n, e => by
    unfold OT.data
    unfold OT.isD at n
    exact .lst ((e a List.mem_cons_self).trans h2) (OtA.rp ef h3 n fun b hb => e b (List.mem_cons_of_mem _ hb))
  | .tup a _, _, .tup h1 h2 h3, n, e => by
    unfold OT.data
    unfold OT.isD at n
    exact .tup (.inl (.inl ((e a List.mem_cons_self).trans h2))) (OtA.rp ef h3 n fun b hb => e b (List.mem_cons_of_mem _ hb))
  | .dct a _ _, _, .dct h1 h2 hl h3, n, e => by
    unfold OT.isD at n
    cases n
theorem OtA.rp (ef : Ex F F') : ∀ {ts : List OT} {vs : List V}, OtA K F H vs ts → areD ts = true → (∀ a, a ∈ fps ts → F' a = H a) → RpA K F' vs (datas ts)
  | [], _, .nil, _, _ => .nil
  | _ :: _, _, .cons h r, n, e => by
    unfold areD at n
    have n' := Bool.and_eq_true_iff.mp n
    exact .cons (Ot.rp ef h n'.1 fun b hb => e b (List.mem_append_left _ hb)) (OtA.rp ef r n'.2 fun b hb => e b (List.mem_append_right _ hb))
end
theorem OtA.length : ∀ {ts : List OT} {vs : List V}, OtA K F H vs ts → vs.length = ts.length
  | [], _, .nil => rfl
  | _ :: _, _, .cons _ r => congrArg (· + 1) (OtA.length r)
theorem OtA.get : ∀ {ts : List OT} {vs : List V} {i : Nat} {v : V}, OtA K F H vs ts → vs[i]? = some v → ∃ t, ts[i]? = some t ∧ Ot K F H v t
  | [], _, _, _, .nil, h => by simp at h
  | t :: _, _, 0, _, .cons q _, h => by
    have e := Option.some.inj h
    subst e
    exact ⟨t, rfl, q⟩
  | _ :: _, _, i + 1, _, .cons _ r, h => OtA.get (i := i) r h
theorem OtA.get' : ∀ {ts : List OT} {vs : List V} {i : Nat} {t : OT}, OtA K F H vs ts → ts[i]? = some t → ∃ v, vs[i]? = some v ∧ Ot K F H v t
  | [], _, _, _, .nil, h => by simp at h
  | t :: _, v :: _, 0, _, .cons q _, h => by
    have e := Option.some.inj h
    subst e
    exact ⟨v, rfl, q⟩
  | _ :: _, _ :: _, i + 1, _, .cons _ r, h => OtA.get' (i := i) r h
theorem OtA.append : ∀ {ts us : List OT} {vs ws : List V}, OtA K F H vs ts → OtA K F H ws us → OtA K F H (vs ++ ws) (ts ++ us)
  | [], _, _, _, .nil, s => s
  | _ :: _, _, _, _, .cons h r, s => .cons h (OtA.append r s)
theorem OtA.set : ∀ {ts : List OT} {vs : List V} {v : V} {t : OT} (i : Nat), OtA K F H vs ts → Ot K F H v t → OtA K F H (vs.set i v) (ts.set i t)
  | [], _, _, _, _, .nil, _ => .nil
  | _ :: _, _, _, _, 0, .cons _ r, q => .cons q r
  | _ :: _, _, _, _, i + 1, .cons h r, q => .cons h (OtA.set i r q)
theorem OtA.take : ∀ {ts : List OT} {vs : List V} (n : Nat), OtA K F H vs ts → OtA K F H (vs.take n) (ts.take n)
  | _, _, 0, _ => .nil
  | [], _, _ + 1, .nil => .nil
  | _ :: _, _, n + 1, .cons h r => .cons h (OtA.take n r)
theorem OtA.dropLast {ts : List OT} {vs : List V} (r : OtA K F H vs ts) : OtA K F H vs.dropLast ts.dropLast := by
  rw [List.dropLast_eq_take, List.dropLast_eq_take, r.length]
  exact r.take _
theorem OtA.of_rp : ∀ {xs : List PyData} {vs : List V}, RpA K F vs xs → OtA K F H vs (xs.map .d)
  | [], _, .nil => .nil
  | _ :: _, _, .cons h r => .cons (.d h) (OtA.of_rp r)
theorem OtA.to_rp : ∀ {xs : List PyData} {vs : List V}, OtA K F H vs (xs.map .d) → RpA K F vs xs
  | [], _, .nil => .nil
  | _ :: _, _, .cons (.d h) r => .cons h (OtA.to_rp r)
end

/-! ### slots, the base of a frame, what holds in it -/
inductive L where
  | d (x : PyData)
  | own (xs : List PyData)
  | scr (ns : List Int)
  | raw (v : V)
  | deep (t : OT)
  | ownD (ks : List Key) (xs : List PyData)
abbrev En := List (Option L)
structure Bs where
  F0 : Hp
  H0 : Hp
  pin : Option (Nat × Addr)
def SlotOk (K : Fr) (F H : Hp) (v : V) : L → Prop
  | .d x => Rp K F v x
  | .own xs => ∃ a vs, v = .ref a ∧ F a = none ∧ H a = some (.lst vs) ∧ RpA K F vs xs
  | .scr ns => ∃ a, v = .ref a ∧ SqL K F a (ns.map V.int)
  | .raw w => v = w
  | .deep t => Ot K F H v t ∧ t.fp.Nodup
  | .ownD ks xs => ∃ a vs, v = .ref a ∧ F a = none ∧ H a = some (.dK (ks.zip vs)) ∧ ks.length = xs.length ∧ RpA K F vs xs
/-- is no thing that the frame owns -/
def L.pl : L → Bool
  | .own _ => false
  | .deep _ => false
  | .ownD _ _ => false
  | _ => true
/-- the addresses that a slot's thing owns -/
def LFp (v : V) : L → Addr → Prop
  | .own _, a => v = .ref a
  | .deep t, a => a ∈ t.fp
  | .ownD _ _, a => v = .ref a
  | _, _ => False
def SFp (σ : St) (ρ : En) (i : Nat) (a : Addr) : Prop := ∃ l v, ρ[i]? = some (some l) ∧ σ[i]? = some (some v) ∧ LFp v l a
structure St1 (B : Bs) (F H : Hp) : Prop where
  f0 : Ex B.F0 F
  fh : Ex F H
  h0 : ∀ a o, B.H0 a = some o → (∀ i, B.pin ≠ some (i, a)) → H a = some o
  th : ∀ a, B.H0 a ≠ none → H a ≠ none
  nf : ∀ a, B.F0 a = none → B.H0 a ≠ none → F a = none
structure EnvOk (B : Bs) (K : Fr) (F H : Hp) (σ : St) (ρ : En) : Prop where
  st : St1 B F H
  len : σ.length = ρ.length
  sl : ∀ (i : Nat) (l : L), ρ[i]? = some (some l) → ∃ v, σ[i]? = some (some v) ∧ SlotOk K F H v l
  sep : ∀ (i j : Nat) (a : Addr), SFp σ ρ i a → SFp σ ρ j a → i = j
  mine : ∀ (i : Nat) (a : Addr), SFp σ ρ i a → B.H0 a = none ∨ B.pin = some (i, a)
  pin : ∀ (i : Nat) (a : Addr), B.pin = some (i, a) → σ[i]? = some (some (.ref a)) ∧ (((∃ xs : List PyData, ρ[i]? = some (some (.own xs))) ∧ ∃ vs, B.H0 a = some (.lst vs)) ∨ ((∃ ks xs, ρ[i]? = some (some (.ownD ks xs))) ∧ ∃ kvs, B.H0 a = some (.dK kvs)))
/-- a value that an expression gives: data, a new list that nobody else holds, the script, any value, new things -/
inductive R where
  | d (x : PyData)
  | new (xs : List PyData)
  | scr (ns : List Int)
  | raw (v : V)
  | deep (t : OT)
  | newD (ks : List Key) (xs : List PyData)
def R.toD : R → Option PyData
  | .d x => some x
  | .new xs => some (.list xs)
  | .deep t => if t.isD = true then some t.data else none
  | _ => none
/-- addresses that nobody holds -/
def Free (B : Bs) (σ : St) (ρ : En) (as : List Addr) : Prop := ∀ a, a ∈ as → B.H0 a = none ∧ ∀ i, ¬ SFp σ ρ i a
def ROk (B : Bs) (K : Fr) (F H : Hp) (σ : St) (ρ : En) (v : V) : R → Prop
  | .d x => Rp K F v x
  | .new xs => ∃ a vs, v = .ref a ∧ F a = none ∧ H a = some (.lst vs) ∧ RpA K F vs xs ∧ B.H0 a = none ∧ ∀ i, ¬ SFp σ ρ i a
  | .scr ns => ∃ a, v = .ref a ∧ SqL K F a (ns.map V.int)
  | .raw w => v = w
  | .deep t => Ot K F H v t ∧ t.fp.Nodup ∧ Free B σ ρ t.fp
  | .newD ks xs => ∃ a vs, v = .ref a ∧ F a = none ∧ H a = some (.dK (ks.zip vs)) ∧ ks.length = xs.length ∧ RpA K F vs xs ∧ B.H0 a = none ∧ ∀ i, ¬ SFp σ ρ i a

section
variable {B : Bs} {K : Fr} {F F' H H' : Hp} {σ σ' : St} {ρ ρ' : En} {v : V}
theorem SlotOk.mono {l : L} (ef : Ex F F') (eh : ∀ a, LFp v l a → F' a = none ∧ H' a = H a) (s : SlotOk K F H v l) : SlotOk K F' H' v l := by
  cases l with
  | d x => exact Rp.mono ef s
  | own xs =>
    obtain ⟨a, vs, e, h1, h2, h3⟩ := s
    obtain ⟨k1, k2⟩ := eh a e
    exact ⟨a, vs, e, k1, k2.trans h2, h3.mono ef⟩
  | scr ns =>
    obtain ⟨a, e, h⟩ := s
    exact ⟨a, e, ef.sl h⟩
  | raw w => exact s
  | deep t => exact ⟨s.1.mono ef eh, s.2⟩
  | ownD ks xs =>
    obtain ⟨a, vs, e, h1, h2, hl, h3⟩ := s
    obtain ⟨k1, k2⟩ := eh a e
    exact ⟨a, vs, e, k1, k2.trans h2, hl, h3.mono ef⟩
theorem SlotOk.live {l : L} (s : SlotOk K F H v l) {a : Addr} (h : LFp v l a) : F a = none ∧ ∃ o, H a = some o := by
  cases l with
  | own xs =>
    obtain ⟨b, vs, e, h1, h2, h3⟩ := s
    cases (show v = .ref a from h)
    cases e
    exact ⟨h1, _, h2⟩
  | deep t => exact s.1.live h
  | ownD ks xs =>
    obtain ⟨b, vs, e, h1, h2, hl, h3⟩ := s
    cases (show v = .ref a from h)
    cases e
    exact ⟨h1, _, h2⟩
  | _ => exact h.elim
theorem EnvOk.fh (E : EnvOk B K F H σ ρ) : Ex F H := E.st.fh
theorem EnvOk.own_at (E : EnvOk B K F H σ ρ) {i : Nat} {xs : List PyData} (h : ρ[i]? = some (some (.own xs))) : ∃ a vs, σ[i]? = some (some (.ref a)) ∧ F a = none ∧ H a = some (.lst vs) ∧ RpA K F vs xs := by
  obtain ⟨v, e, a, vs, rfl, h1, h2, h3⟩ := E.sl i _ h
  exact ⟨a, vs, e, h1, h2, h3⟩
theorem EnvOk.ownD_at (E : EnvOk B K F H σ ρ) {i : Nat} {ks : List Key} {xs : List PyData} (h : ρ[i]? = some (some (.ownD ks xs))) : ∃ a vs, σ[i]? = some (some (.ref a)) ∧ F a = none ∧ H a = some (.dK (ks.zip vs)) ∧ ks.length = xs.length ∧ RpA K F vs xs := by
  obtain ⟨v, e, a, vs, rfl, h1, h2, h3, h4⟩ := E.sl i _ h
  exact ⟨a, vs, e, h1, h2, h3, h4⟩
theorem EnvOk.live (E : EnvOk B K F H σ ρ) {i : Nat} {a : Addr} (h : SFp σ ρ i a) : F a = none ∧ ∃ o, H a = some o := by
  obtain ⟨l, v, h1, h2, h3⟩ := h
  obtain ⟨v', h4, s⟩ := E.sl i l h1
  rw [h2] at h4
  cases h4
  exact s.live h3
theorem EnvOk.sfp_own (E : EnvOk B K F H σ ρ) {i : Nat} {xs : List PyData} {a : Addr} (h : ρ[i]? = some (some (.own xs))) (ha : σ[i]? = some (some (.ref a))) : SFp σ ρ i a := ⟨_, _, h, ha, rfl⟩
theorem EnvOk.sfp_ownD (E : EnvOk B K F H σ ρ) {i : Nat} {ks : List Key} {xs : List PyData} {a : Addr} (h : ρ[i]? = some (some (.ownD ks xs))) (ha : σ[i]? = some (some (.ref a))) : SFp σ ρ i a := ⟨_, _, h, ha, rfl⟩
/-- a fresh place is nobody's -/
theorem EnvOk.fr (E : EnvOk B K F H σ ρ) {p : Addr} (hp : H p = none) (i : Nat) : ¬ SFp σ ρ i p := fun h => by
  obtain ⟨_, o, e⟩ := E.live h
  rw [hp] at e
  cases e
/-- the slots stay, where the own things stay -/
theorem EnvOk.sl_mono (E : EnvOk B K F H σ ρ) (ef : Ex F F') (eh : ∀ i a, SFp σ ρ i a → F' a = none ∧ H' a = H a) : ∀ (i : Nat) (l : L), ρ[i]? = some (some l) → ∃ v, σ[i]? = some (some v) ∧ SlotOk K F' H' v l := fun i l e => by
  obtain ⟨v, e1, s⟩ := E.sl i l e
  exact ⟨v, e1, s.mono ef fun a ha => eh i a ⟨l, v, e, e1, ha⟩⟩
/-- a new object that is frozen at once -/
theorem EnvOk.alloc (E : EnvOk B K F H σ ρ) {p : Addr} {o : HO} (hp : H p = none) : EnvOk B K (upd F p o) (upd H p o) σ ρ ∧ Ex F (upd F p o) := by
  have hF : F p = none := E.fh.free hp
  have ef : Ex F (upd F p o) := Ex.new hF
  have h0p : B.H0 p = none := by
    cases q : B.H0 p with
    | none => rfl
    | some u => exact absurd hp (E.st.th p (by rw [q]; exact fun z => nomatch z))
  refine ⟨⟨⟨E.st.f0.trans ef, fun a u e => ?_, fun a u e n => ?_, fun a h => ?_, fun a h1 h2 => ?_⟩, E.len, E.sl_mono ef fun i a h => ?_, E.sep, E.mine, E.pin⟩, ef⟩
  · by_cases ha : a = p
    · subst ha; rw [upd_same] at e ⊢; exact e
    · rw [upd_ne ha] at e ⊢; exact E.fh a u e
  · have ha : a ≠ p := fun z => by rw [z, h0p] at e; cases e
    rw [upd_ne ha]
    exact E.st.h0 a u e n
  · by_cases ha : a = p
    · subst ha; rw [upd_same]; exact fun z => nomatch z
    · rw [upd_ne ha]; exact E.st.th a h
  · have ha : a ≠ p := fun z => h2 (by rw [z]; exact h0p)
    rw [upd_ne ha]
    exact E.st.nf a h1 h2
  · have ha : a ≠ p := fun z => E.fr hp i (by rw [← z]; exact h)
    rw [upd_ne ha, upd_ne ha]
    exact ⟨(E.live h).1, rfl⟩
/-- a new object that stays out of F -/
theorem EnvOk.allocO (E : EnvOk B K F H σ ρ) {p : Addr} {o : HO} (hp : H p = none) : EnvOk B K F (upd H p o) σ ρ := by
  have hF : F p = none := E.fh.free hp
  have h0p : B.H0 p = none := by
    cases q : B.H0 p with
    | none => rfl
    | some u => exact absurd hp (E.st.th p (by rw [q]; exact fun z => nomatch z))
  refine ⟨⟨E.st.f0, E.fh.trans (Ex.new hp), fun a u e n => ?_, fun a h => ?_, E.st.nf⟩, E.len, E.sl_mono (Ex.refl F) fun i a h => ?_, E.sep, E.mine, E.pin⟩
  · have ha : a ≠ p := fun z => by rw [z, h0p] at e; cases e
    rw [upd_ne ha]
    exact E.st.h0 a u e n
  · by_cases ha : a = p
    · subst ha; rw [upd_same]; exact fun z => nomatch z
    · rw [upd_ne ha]; exact E.st.th a h
  · have ha : a ≠ p := fun z => E.fr hp i (by rw [← z]; exact h)
    exact ⟨(E.live h).1, upd_ne ha⟩
theorem EnvOk.h0p (E : EnvOk B K F H σ ρ) {p : Addr} (hp : H p = none) : B.H0 p = none := by
  cases q : B.H0 p with
  | none => rfl
  | some u => exact absurd hp (E.st.th p (by rw [q]; exact fun z => nomatch z))
theorem set_cases {α : Type} {l : List (Option α)} {i j : Nat} {x : Option α} {y : α} (h : (l.set i x)[j]? = some (some y)) : (j = i ∧ i < l.length ∧ x = some y) ∨ (j ≠ i ∧ l[j]? = some (some y)) := by
  by_cases c : j = i
  · subst c
    have hj := (List.getElem?_eq_some_iff.mp h).1
    rw [List.length_set] at hj
    rw [List.getElem?_set_self hj] at h
    exact .inl ⟨rfl, hj, Option.some.inj h⟩
  · rw [List.getElem?_set_ne (Ne.symm c)] at h
    exact .inr ⟨c, h⟩
/-- the own thing of slot i is another one: its place in the heap and the new ones beneath it -/
theorem EnvOk.put (E : EnvOk B K F H σ ρ) {i : Nat} {l l' : L} {v : V} (h : ρ[i]? = some (some l)) (hv : σ[i]? = some (some v)) (st : St1 B F H') (s : SlotOk K F H' v l') (keep : ∀ j a, j ≠ i → SFp σ ρ j a → H' a = H a)
    (nw : ∀ a, LFp v l' a → LFp v l a ∨ (B.H0 a = none ∧ ∀ j, ¬ SFp σ ρ j a)) (hp : (∃ xs ys, l = .own ys ∧ l' = .own xs) ∨ (∃ ks xs js ys, l = .ownD js ys ∧ l' = .ownD ks xs) ∨ ∀ a, B.pin ≠ some (i, a)) :
    EnvOk B K F H' σ (ρ.set i (some l')) := by
  have hi : i < ρ.length := (List.getElem?_eq_some_iff.mp h).1
  have fpo : ∀ j a, SFp σ (ρ.set i (some l')) j a → SFp σ ρ j a ∨ (j = i ∧ B.H0 a = none ∧ ∀ j, ¬ SFp σ ρ j a) := fun j a ⟨m, w, e1, e2, e3⟩ => by
    rcases set_cases e1 with ⟨rfl, _, e⟩ | ⟨n, e⟩
    · cases e
      rw [hv] at e2
      cases e2
      rcases nw a e3 with k | k
      · exact .inl ⟨l, v, h, hv, k⟩
      · exact .inr ⟨rfl, k⟩
    · exact .inl ⟨m, w, e, e2, e3⟩
  refine ⟨st, by rw [List.length_set]; exact E.len, fun j m e => ?_, fun j k a e1 e2 => ?_, fun j a e => ?_, fun j a e => ?_⟩
  · rcases set_cases e with ⟨rfl, _, e'⟩ | ⟨n, e'⟩
    · cases e'; exact ⟨v, hv, s⟩
    · obtain ⟨w, e1, s'⟩ := E.sl j m e'
      exact ⟨w, e1, s'.mono (Ex.refl F) fun a ha => ⟨(E.live ⟨m, w, e', e1, ha⟩).1, keep j a n ⟨m, w, e', e1, ha⟩⟩⟩
  · rcases fpo j a e1 with k1 | ⟨k1, _, n1⟩ <;> rcases fpo k a e2 with k2 | ⟨k2, _, n2⟩
    · exact E.sep j k a k1 k2
    · exact absurd k1 (n2 _)
    · exact absurd k2 (n1 _)
    · exact k1.trans k2.symm
  · rcases fpo j a e with k | ⟨_, k, _⟩
    · exact E.mine j a k
    · exact .inl k
  · obtain ⟨q1, q2⟩ := E.pin j a e
    refine ⟨q1, ?_⟩
    by_cases hj : j = i
    · subst hj
      rw [List.getElem?_set_self hi]
      rw [h] at q2
      rcases hp with ⟨xs, ys, rfl, rfl⟩ | ⟨ks, ts, js, ys, rfl, rfl⟩ | hp
      · rcases q2 with ⟨_, q2⟩ | ⟨⟨_, _, q2⟩, _⟩
        · exact .inl ⟨⟨xs, rfl⟩, q2⟩
        · cases q2
      · rcases q2 with ⟨⟨_, q2⟩, _⟩ | ⟨_, q2⟩
        · cases q2
        · exact .inr ⟨⟨ks, ts, rfl⟩, q2⟩
      · exact absurd e (hp a)
    · rw [List.getElem?_set_ne (Ne.symm hj)]; exact q2
/-- one own object is written -/
theorem EnvOk.st_write (E : EnvOk B K F H σ ρ) {i : Nat} {a : Addr} {o : HO} (h : SFp σ ρ i a) : St1 B F (upd H a o) := by
  obtain ⟨k1, u0, k2⟩ := E.live h
  refine ⟨E.st.f0, fun b u e => ?_, fun b u e n => ?_, fun b hb => ?_, E.st.nf⟩
  · have hb : b ≠ a := fun z => by rw [z, k1] at e; cases e
    rw [upd_ne hb]; exact E.fh b u e
  · have hb : b ≠ a := fun z => by
      subst z
      rcases E.mine i b h with z | z
      · rw [z] at e; cases e
      · exact n i z
    rw [upd_ne hb]; exact E.st.h0 b u e n
  · by_cases z : b = a
    · subst z; rw [upd_same]; exact fun z => nomatch z
    · rw [upd_ne z]; exact E.st.th b hb
/-- the own list of slot i is written -/
theorem EnvOk.write (E : EnvOk B K F H σ ρ) {i : Nat} {xs ys : List PyData} {a : Addr} {ws : List V} (h : ρ[i]? = some (some (.own xs))) (ha : σ[i]? = some (some (.ref a))) (r : RpA K F ws ys) :
    EnvOk B K F (upd H a (.lst ws)) σ (ρ.set i (some (.own ys))) := by
  have fa := E.sfp_own h ha
  have k1 := (E.live fa).1
  refine E.put h ha (E.st_write fa) ⟨a, ws, rfl, k1, upd_same, r⟩ (fun j b n hb => ?_) (fun b hb => .inl hb) (.inl ⟨ys, xs, rfl, rfl⟩)
  exact upd_ne fun z => by subst z; exact n (E.sep j i b hb fa)
/-- the own dict of slot i is written -/
theorem EnvOk.writeD (E : EnvOk B K F H σ ρ) {i : Nat} {ks js : List Key} {xs ys : List PyData} {a : Addr} {ws : List V} (h : ρ[i]? = some (some (.ownD ks xs))) (ha : σ[i]? = some (some (.ref a))) (hl : js.length = ys.length) (r : RpA K F ws ys) :
    EnvOk B K F (upd H a (.dK (js.zip ws))) σ (ρ.set i (some (.ownD js ys))) := by
  have fa := E.sfp_ownD h ha
  have k1 := (E.live fa).1
  refine E.put h ha (E.st_write fa) ⟨a, ws, rfl, k1, upd_same, hl, r⟩ (fun j b n hb => ?_) (fun b hb => .inl hb) (.inr (.inl ⟨js, ys, ks, xs, rfl, rfl⟩))
  exact upd_ne fun z => by subst z; exact n (E.sep j i b hb fa)
/-- a slot is stored: what is no own thing -/
theorem EnvOk.setD (E : EnvOk B K F H σ ρ) {i : Nat} {l : L} (hv : SlotOk K F H v l) (hl : l.pl = true) (hp : ∀ a, B.pin ≠ some (i, a)) : EnvOk B K F H (σ.set i (some v)) (ρ.set i (some l)) := by
  have fpo : ∀ j a, SFp (σ.set i (some v)) (ρ.set i (some l)) j a → SFp σ ρ j a := fun j a ⟨m, w, e1, e2, e3⟩ => by
    rcases set_cases e1 with ⟨rfl, _, e⟩ | ⟨n, e⟩
    · cases e
      cases l <;> first | exact (show False from e3).elim | cases hl
    · rw [List.getElem?_set_ne (Ne.symm n)] at e2
      exact ⟨m, w, e, e2, e3⟩
  refine ⟨E.st, by rw [List.length_set, List.length_set]; exact E.len, fun j l' e => ?_, fun j k a e1 e2 => E.sep j k a (fpo _ _ e1) (fpo _ _ e2), fun j a e => E.mine j a (fpo _ _ e), fun j b e => ?_⟩
  · rcases set_cases e with ⟨rfl, hj, e'⟩ | ⟨n, e'⟩
    · cases e'
      exact ⟨v, List.getElem?_set_self (by rw [E.len]; exact hj), hv⟩
    · rw [List.getElem?_set_ne (Ne.symm n)]
      exact E.sl j l' e'
  · have hj : j ≠ i := fun z => by subst z; exact hp b e
    rw [List.getElem?_set_ne (Ne.symm hj), List.getElem?_set_ne (Ne.symm hj)]
    exact E.pin j b e
/-- a slot takes new own things -/
theorem EnvOk.setN (E : EnvOk B K F H σ ρ) {i : Nat} {l : L} (hv : SlotOk K F H v l) (hf : ∀ a, LFp v l a → B.H0 a = none ∧ ∀ j, ¬ SFp σ ρ j a) (hp : ∀ a, B.pin ≠ some (i, a)) : EnvOk B K F H (σ.set i (some v)) (ρ.set i (some l)) := by
  have fpo : ∀ j a, SFp (σ.set i (some v)) (ρ.set i (some l)) j a → (j = i ∧ LFp v l a) ∨ (j ≠ i ∧ SFp σ ρ j a) := fun j a ⟨m, w, e1, e2, e3⟩ => by
    rcases set_cases e1 with ⟨rfl, hj, e⟩ | ⟨n, e⟩
    · cases e
      rw [List.getElem?_set_self (by rw [E.len]; exact hj)] at e2
      cases e2
      exact .inl ⟨rfl, e3⟩
    · rw [List.getElem?_set_ne (Ne.symm n)] at e2
      exact .inr ⟨n, m, w, e, e2, e3⟩
  refine ⟨E.st, by rw [List.length_set, List.length_set]; exact E.len, fun j l' e => ?_, fun j k a e1 e2 => ?_, fun j a e => ?_, fun j b e => ?_⟩
  · rcases set_cases e with ⟨rfl, hj, e'⟩ | ⟨n, e'⟩
    · cases e'
      exact ⟨v, List.getElem?_set_self (by rw [E.len]; exact hj), hv⟩
    · rw [List.getElem?_set_ne (Ne.symm n)]
      exact E.sl j l' e'
  · rcases fpo j a e1 with ⟨k1, q1⟩ | ⟨k1, q1⟩ <;> rcases fpo k a e2 with ⟨k2, q2⟩ | ⟨k2, q2⟩
    · exact k1.trans k2.symm
    · exact absurd q2 ((hf a q1).2 _)
    · exact absurd q1 ((hf a q2).2 _)
    · exact E.sep j k a q1 q2
  · rcases fpo j a e with ⟨_, q⟩ | ⟨_, q⟩
    · exact .inl (hf a q).1
    · exact E.mine j a q
  · have hj : j ≠ i := fun z => by subst z; exact hp b e
    rw [List.getElem?_set_ne (Ne.symm hj), List.getElem?_set_ne (Ne.symm hj)]
    exact E.pin j b e
theorem EnvOk.setO (E : EnvOk B K F H σ ρ) {i : Nat} {xs : List PyData} (hv : ROk B K F H σ ρ v (.new xs)) (hp : ∀ a, B.pin ≠ some (i, a)) : EnvOk B K F H (σ.set i (some v)) (ρ.set i (some (.own xs))) := by
  obtain ⟨a, vs, rfl, k1, k2, k3, k4, k5⟩ := hv
  exact E.setN ⟨a, vs, rfl, k1, k2, k3⟩ (fun b hb => by cases (show V.ref a = V.ref b from hb); exact ⟨k4, k5⟩) hp
theorem EnvOk.setND (E : EnvOk B K F H σ ρ) {i : Nat} {ks : List Key} {xs : List PyData} (hv : ROk B K F H σ ρ v (.newD ks xs)) (hp : ∀ a, B.pin ≠ some (i, a)) : EnvOk B K F H (σ.set i (some v)) (ρ.set i (some (.ownD ks xs))) := by
  obtain ⟨a, vs, rfl, k1, k2, hl, k3, k4, k5⟩ := hv
  exact E.setN ⟨a, vs, rfl, k1, k2, hl, k3⟩ (fun b hb => by cases (show V.ref a = V.ref b from hb); exact ⟨k4, k5⟩) hp
theorem EnvOk.setT (E : EnvOk B K F H σ ρ) {i : Nat} {t : OT} (hv : ROk B K F H σ ρ v (.deep t)) (hp : ∀ a, B.pin ≠ some (i, a)) : EnvOk B K F H (σ.set i (some v)) (ρ.set i (some (.deep t))) :=
  E.setN ⟨hv.1, hv.2.1⟩ (fun b hb => hv.2.2 b hb) hp
/-- a slot less known -/
theorem EnvOk.weak (E : EnvOk B K F H σ ρ) (hl : ρ'.length = ρ.length) (w : ∀ (i : Nat) (l : L), ρ'[i]? = some (some l) → ρ[i]? = some (some l)) (hp : ∀ (i : Nat) (a : Addr), B.pin = some (i, a) → ρ'[i]? = ρ[i]?) : EnvOk B K F H σ ρ' :=
  have fpo : ∀ j a, SFp σ ρ' j a → SFp σ ρ j a := fun j a ⟨m, u, e1, e2, e3⟩ => ⟨m, u, w _ _ e1, e2, e3⟩
  ⟨E.st, E.len.trans hl.symm, fun i l e => E.sl i l (w i l e), fun i j a e1 e2 => E.sep i j a (fpo _ _ e1) (fpo _ _ e2), fun i a e => E.mine i a (fpo _ _ e), fun i a e => by rw [hp i a e]; exact E.pin i a e⟩
theorem set_none {ρ : En} {i j : Nat} {l : L} (h : (ρ.set i none)[j]? = some (some l)) : j ≠ i ∧ ρ[j]? = some (some l) := by
  rcases set_cases h with ⟨_, _, e⟩ | q
  · cases e
  · exact q
/-- a slot forgotten -/
theorem EnvOk.forget (E : EnvOk B K F H σ ρ) {i : Nat} {o : Option V} (hp : ∀ a, B.pin ≠ some (i, a)) : EnvOk B K F H (σ.set i o) (ρ.set i none) := by
  have fpo : ∀ j a, SFp (σ.set i o) (ρ.set i none) j a → SFp σ ρ j a := fun j a ⟨m, u, e1, e2, e3⟩ => by
    obtain ⟨n, q⟩ := set_none e1
    rw [List.getElem?_set_ne (Ne.symm n)] at e2
    exact ⟨m, u, q, e2, e3⟩
  refine ⟨E.st, by rw [List.length_set, List.length_set]; exact E.len, fun j l' e => ?_, fun j k a e1 e2 => E.sep j k a (fpo _ _ e1) (fpo _ _ e2), fun j a e => E.mine j a (fpo _ _ e), fun j b e => ?_⟩
  · obtain ⟨n, q⟩ := set_none e
    rw [List.getElem?_set_ne (Ne.symm n)]
    exact E.sl j l' q
  · have hj : j ≠ i := fun z => by subst z; exact hp b e
    rw [List.getElem?_set_ne (Ne.symm hj), List.getElem?_set_ne (Ne.symm hj)]
    exact E.pin j b e
/-- the heap goes on, all that was there stays -/
structure Stp (F H F' H' : Hp) : Prop where
  ef : Ex F F'
  fh : Ex F' H'
  eh : Ex H H'
  nf : ∀ a, F a = none → H a ≠ none → F' a = none
theorem EnvOk.step (E : EnvOk B K F H σ ρ) (s : Stp F H F' H') : EnvOk B K F' H' σ ρ := by
  refine ⟨⟨E.st.f0.trans s.ef, s.fh, fun a u e n => s.eh a u (E.st.h0 a u e n), fun a h => ?_, fun a h1 h2 => s.nf a (E.st.nf a h1 h2) (E.st.th a h2)⟩, E.len, E.sl_mono s.ef fun i a h => ?_, E.sep, E.mine, E.pin⟩
  · cases q : H a with
    | none => exact absurd q (E.st.th a h)
    | some u => rw [s.eh a u q]; exact fun z => nomatch z
  · obtain ⟨k1, o, k2⟩ := E.live h
    exact ⟨s.nf a k1 (by rw [k2]; exact fun z => nomatch z), (s.eh a _ k2).trans k2.symm⟩
/-- free objects are frozen -/
def frz (F H : Hp) (as : List Addr) : Hp := fun a => if a ∈ as then H a else F a
theorem EnvOk.freeze (E : EnvOk B K F H σ ρ) {as : List Addr} (hf : Free B σ ρ as) (h0 : ∀ a, a ∈ as → F a = none) : EnvOk B K (frz F H as) H σ ρ ∧ Ex F (frz F H as) := by
  have ef : Ex F (frz F H as) := fun a u e => by
    unfold frz
    rw [if_neg fun z => by rw [h0 a z] at e; cases e]
    exact e
  refine ⟨⟨⟨E.st.f0.trans ef, fun b u e => ?_, E.st.h0, E.st.th, fun b h1 h2 => ?_⟩, E.len, E.sl_mono ef fun i a h => ⟨?_, rfl⟩, E.sep, E.mine, E.pin⟩, ef⟩
  · unfold frz at e
    split at e
    · exact e
    · exact E.fh b u e
  · unfold frz
    rw [if_neg fun z => h2 (hf b z).1]
    exact E.st.nf b h1 h2
  · unfold frz
    rw [if_neg fun z => (hf a z).2 i h]
    exact (E.live h).1
/-- a value is data: new things are frozen -/
theorem EnvOk.asD (E : EnvOk B K F H σ ρ) {r : R} {x : PyData} (hv : ROk B K F H σ ρ v r) (hx : r.toD = some x) : ∃ F', EnvOk B K F' H σ ρ ∧ Ex F F' ∧ Rp K F' v x := by
  cases r with
  | d y => cases hx; exact ⟨F, E, Ex.refl F, hv⟩
  | new xs =>
    cases hx
    obtain ⟨a, vs, rfl, k1, k2, k3, k4, k5⟩ := hv
    obtain ⟨E', ef⟩ := E.freeze (as := [a]) (fun b hb => by rw [List.mem_singleton.mp hb]; exact ⟨k4, k5⟩) fun b hb => by rw [List.mem_singleton.mp hb]; exact k1
    refine ⟨_, E', ef, .lst ?_ (k3.mono ef)⟩
    unfold frz
    rw [if_pos List.mem_cons_self]
    exact k2
  | scr ns => cases hx
  | raw w => cases hx
  | newD ks xs => cases hx
  | deep t =>
    obtain ⟨k1, k2, k3⟩ := hv
    unfold R.toD at hx
    by_cases c : t.isD = true
    · simp only [c, if_true] at hx
      cases hx
      obtain ⟨E', ef⟩ := E.freeze k3 fun a ha => (k1.live ha).1
      exact ⟨_, E', ef, k1.rp ef c fun a ha => by unfold frz; rw [if_pos ha]⟩
    · simp only [c] at hx
      cases hx
end
end SV

set_option maxHeartbeats 1000000
namespace SV
open PySem PySem.Spec L2
open Evl (Ex)

/-! ### judgements -/
inductive Ar where
  | d (x : PyData)
  | scr (ns : List Int)
  | raw (v : V)
  | own (j : Nat)
def R.toA : R → Option Ar
  | .d x => some (.d x)
  | .new xs => some (.d (.list xs))
  | .scr ns => some (.scr ns)
  | .raw v => some (.raw v)
  | .deep t => if t.isD = true then some (.d t.data) else none
  | .newD _ _ => none
def AOk (K : Fr) (F : Hp) (σ : St) (v : V) : Ar → Prop
  | .d x => Rp K F v x
  | .scr ns => ∃ a, v = .ref a ∧ SqL K F a (ns.map V.int)
  | .raw w => v = w
  | .own j => σ[j]? = some (some v)
inductive AOks (K : Fr) (F : Hp) (σ : St) : List V → List Ar → Prop
  | nil : AOks K F σ [] []
  | cons {v : V} {vs : List V} {a : Ar} {as : List Ar} : AOk K F σ v a → AOks K F σ vs as → AOks K F σ (v :: vs) (a :: as)
theorem AOk.mono {K : Fr} {F F' : Hp} {σ : St} {v : V} {a : Ar} (e : Ex F F') (h : AOk K F σ v a) : AOk K F' σ v a := by
  cases a with
  | d x => exact Rp.mono e h
  | scr ns => obtain ⟨a, q, s⟩ := h; exact ⟨a, q, e.sl s⟩
  | raw w => exact h
  | own j => exact h
def WE (B : Bs) (K : Fr) (te : TE) (ρ : En) (Q : R → En → Prop) : Prop := ∀ F H σ, EnvOk B K F H σ ρ → ∀ QQ : VK, (∀ v r F' H' ρ', EnvOk B K F' H' σ ρ' → Ex F F' → ROk B K F' H' σ ρ' v r → Q r ρ' → QQ v H') → te σ H QQ
def WD (B : Bs) (K : Fr) (te : TE) (ρ : En) (Q : PyData → En → Prop) : Prop := ∀ F H σ, EnvOk B K F H σ ρ → ∀ QQ : VK, (∀ v x F' H' ρ', EnvOk B K F' H' σ ρ' → Ex F F' → Rp K F' v x → Q x ρ' → QQ v H') → te σ H QQ
def WT (B : Bs) (K : Fr) (tt : TT) (ρ : En) (Q : Bool → En → Prop) : Prop := ∀ F H σ, EnvOk B K F H σ ρ → ∀ QQ : Bool → Hp → Prop, (∀ b F' H' ρ', EnvOk B K F' H' σ ρ' → Ex F F' → Q b ρ' → QQ b H') → tt σ H QQ
def WA (B : Bs) (K : Fr) (ta : TA) (ρ : En) (Q : List Ar → En → Prop) : Prop := ∀ F H σ, EnvOk B K F H σ ρ → ∀ QQ : List V → Hp → Prop, (∀ vs as F' H' ρ', EnvOk B K F' H' σ ρ' → Ex F F' → AOks K F' σ vs as → Q as ρ' → QQ vs H') → ta σ H QQ
def WO (B : Bs) (K : Fr) (to : TO) (ρ : En) (Q : Option Int → En → Prop) : Prop := ∀ F H σ, EnvOk B K F H σ ρ → ∀ QQ : Option Int → Hp → Prop, (∀ o F' H' ρ', EnvOk B K F' H' σ ρ' → Ex F F' → Q o ρ' → QQ o H') → to σ H QQ
structure Zs where
  nx : En → Prop
  rt : R → En → Prop
  bk : En → Prop := fun _ => False
  ct : En → Prop := fun _ => False
/-- another next; a loop's turn -/
abbrev Zs.sq (Z : Zs) (n : En → Prop) : Zs := ⟨n, Z.rt, Z.bk, Z.ct⟩
abbrev Zs.lp (Z : Zs) (n : En → Prop) : Zs := ⟨n, Z.rt, Z.nx, n⟩
structure ZOk (B : Bs) (K : Fr) (F0 : Hp) (Z : Zs) (D : Ends) : Prop where
  nx : ∀ F H σ ρ, EnvOk B K F H σ ρ → Ex F0 F → Z.nx ρ → D.nx σ H
  rt : ∀ F H σ ρ v r, EnvOk B K F H σ ρ → Ex F0 F → ROk B K F H σ ρ v r → Z.rt r ρ → D.rt v H
  bk : ∀ F H σ ρ, EnvOk B K F H σ ρ → Ex F0 F → Z.bk ρ → D.bk σ H
  ct : ∀ F H σ ρ, EnvOk B K F H σ ρ → Ex F0 F → Z.ct ρ → D.ct σ H
theorem ZOk.up {B : Bs} {K : Fr} {F0 F1 : Hp} {Z : Zs} {D : Ends} (ok : ZOk B K F0 Z D) (e : Ex F0 F1) : ZOk B K F1 Z D :=
  ⟨fun F H σ ρ E e' => ok.nx F H σ ρ E (e.trans e'), fun F H σ ρ v r E e' => ok.rt F H σ ρ v r E (e.trans e'), fun F H σ ρ E e' => ok.bk F H σ ρ E (e.trans e'), fun F H σ ρ E e' => ok.ct F H σ ρ E (e.trans e')⟩
def WS (B : Bs) (K : Fr) (ts : TS) (ρ : En) (Z : Zs) : Prop := ∀ F H σ, EnvOk B K F H σ ρ → ∀ D : Ends, ZOk B K F Z D → ts D σ H

section
variable {B : Bs} {K : Fr} {ρ : En} {ta tb te : TE} {tt : TT} {tr tl : TA} {Q : R → En → Prop} {QD : PyData → En → Prop} {QT : Bool → En → Prop} {QA : List Ar → En → Prop} {QO : Option Int → En → Prop}

/-! ### between them -/
theorem we_d (h : WD B K te ρ fun x ρ' => Q (.d x) ρ') : WE B K te ρ Q := fun F H σ E QQ k =>
  h F H σ E QQ fun v x F' H' ρ' E' ef r q => k v (.d x) F' H' ρ' E' ef r q
theorem wd_e (h : WE B K te ρ fun r ρ' => ∃ x, r.toD = some x ∧ QD x ρ') : WD B K te ρ QD := fun F H σ E QQ k =>
  h F H σ E QQ fun v r F' H' ρ' E' ef rv ⟨x, hx, q⟩ => by
    obtain ⟨F2, E2, e2, r2⟩ := E'.asD rv hx
    exact k v x F2 H' ρ' E2 (ef.trans e2) r2 q
theorem we_mono {Q' : R → En → Prop} (h : WE B K te ρ Q') (i : ∀ r ρ', Q' r ρ' → Q r ρ') : WE B K te ρ Q := fun F H σ E QQ k =>
  h F H σ E QQ fun v r F' H' ρ' E' ef rv q => k v r F' H' ρ' E' ef rv (i r ρ' q)
theorem wd_mono {Q' : PyData → En → Prop} (h : WD B K te ρ Q') (i : ∀ r ρ', Q' r ρ' → QD r ρ') : WD B K te ρ QD := fun F H σ E QQ k =>
  h F H σ E QQ fun v r F' H' ρ' E' ef rv q => k v r F' H' ρ' E' ef rv (i r ρ' q)

/-! ### names, constants -/
theorem wd_var {i : Nat} {x : PyData} (h : ρ[i]? = some (some (.d x))) (q : QD x ρ) : WD B K (tVar i) ρ QD := fun F H σ E QQ k => by
  obtain ⟨v, e, s⟩ := E.sl i _ h
  exact ⟨v, e, k v x F H ρ E (Ex.refl F) s q⟩
theorem we_scr {i : Nat} {ns : List Int} (h : ρ[i]? = some (some (.scr ns))) (q : Q (.scr ns) ρ) : WE B K (tVar i) ρ Q := fun F H σ E QQ k => by
  obtain ⟨v, e, s⟩ := E.sl i _ h
  exact ⟨v, e, k v (.scr ns) F H ρ E (Ex.refl F) s q⟩
theorem we_rawv {i : Nat} {w : V} (h : ρ[i]? = some (some (.raw w))) (q : Q (.raw w) ρ) : WE B K (tVar i) ρ Q := fun F H σ E QQ k => by
  obtain ⟨v, e, s⟩ := E.sl i _ h
  exact ⟨v, e, k v (.raw w) F H ρ E (Ex.refl F) s q⟩
theorem wd_int {i : Int} (q : QD (.int i) ρ) : WD B K (tC (.int i)) ρ QD := fun F H σ E QQ k => k _ _ F H ρ E (Ex.refl F) (.int i) q
theorem wd_bl {b : Bool} (q : QD (.bool b) ρ) : WD B K (tC (.bl b)) ρ QD := fun F H σ E QQ k => k _ _ F H ρ E (Ex.refl F) (.bl b) q
theorem wd_str {s : Str} (q : QD (.str s) ρ) : WD B K (tC (.str s)) ρ QD := fun F H σ E QQ k => k _ _ F H ρ E (Ex.refl F) (.str s) q
theorem wd_non (q : QD .none ρ) : WD B K (tC .non) ρ QD := fun F H σ E QQ k => k _ _ F H ρ E (Ex.refl F) .non q
theorem we_raw {w : V} (q : Q (.raw w) ρ) : WE B K (tC w) ρ Q := fun F H σ E QQ k => k _ (.raw w) F H ρ E (Ex.refl F) rfl q

/-! ### arguments -/
theorem wa_nil (q : QA [] ρ) : WA B K tNil ρ QA := fun F H σ E QQ k => k [] [] F H ρ E (Ex.refl F) .nil q
theorem wa_e (h : WE B K te ρ fun r ρ1 => ∃ a, r.toA = some a ∧ WA B K tr ρ1 fun as ρ2 => QA (a :: as) ρ2) : WA B K (tCons te tr) ρ QA := fun F H σ E QQ k =>
  h F H σ E _ fun v r F1 H1 ρ1 E1 e1 rv ⟨a, ha, q⟩ => by
    have key : ∃ F2, EnvOk B K F2 H1 σ ρ1 ∧ Ex F1 F2 ∧ AOk K F2 σ v a := by
      cases r with
      | d x => cases ha; exact ⟨F1, E1, Ex.refl F1, rv⟩
      | new xs => cases ha; exact E1.asD (r := .new xs) rv rfl
      | scr ns => cases ha; exact ⟨F1, E1, Ex.refl F1, rv⟩
      | raw w => cases ha; exact ⟨F1, E1, Ex.refl F1, rv⟩
      | newD ks xs => cases ha
      | deep t =>
        unfold R.toA at ha
        by_cases c : t.isD = true
        · simp only [c, if_true] at ha
          cases ha
          exact E1.asD (r := .deep t) rv (by unfold R.toD; simp only [c, if_true])
        · simp only [c] at ha
          cases ha
    obtain ⟨F2, E2, e2, av⟩ := key
    exact q F2 H1 σ E2 _ fun vs as F3 H3 ρ3 E3 e3 as' q3 => k (v :: vs) (a :: as) F3 H3 ρ3 E3 ((e1.trans e2).trans e3) (.cons (av.mono e3) as') q3
theorem wa_d (h : WD B K te ρ fun x ρ1 => WA B K tr ρ1 fun as ρ2 => QA (.d x :: as) ρ2) : WA B K (tCons te tr) ρ QA := fun F H σ E QQ k =>
  h F H σ E _ fun v x F1 H1 ρ1 E1 e1 rv q => q F1 H1 σ E1 _ fun vs as F3 H3 ρ3 E3 e3 as' q3 => k (v :: vs) (.d x :: as) F3 H3 ρ3 E3 (e1.trans e3) (.cons (AOk.mono (a := .d x) e3 rv) as') q3
theorem wa_own {j : Nat} {xs : List PyData} (h : ρ[j]? = some (some (.own xs))) (q : WA B K tr ρ fun as ρ2 => QA (.own j :: as) ρ2) : WA B K (tCons (tVar j) tr) ρ QA := fun F H σ E QQ k => by
  obtain ⟨a, vs, e, _⟩ := E.own_at h
  exact ⟨.ref a, e, q F H σ E _ fun vs as F3 H3 ρ3 E3 e3 as' q3 => k _ _ F3 H3 ρ3 E3 e3 (.cons (a := .own j) e as') q3⟩
/-- all arguments data -/
def WDs (B : Bs) (K : Fr) (ta : TA) (ρ : En) (Q : List PyData → En → Prop) : Prop := ∀ F H σ, EnvOk B K F H σ ρ → ∀ QQ : List V → Hp → Prop, (∀ vs xs F' H' ρ', EnvOk B K F' H' σ ρ' → Ex F F' → RpA K F' vs xs → Q xs ρ' → QQ vs H') → ta σ H QQ
theorem wds_nil {QL : List PyData → En → Prop} (q : QL [] ρ) : WDs B K tNil ρ QL := fun F H σ E QQ k => k [] [] F H ρ E (Ex.refl F) .nil q
theorem wds_cons {QL : List PyData → En → Prop} (h : WD B K te ρ fun x ρ1 => WDs B K tr ρ1 fun xs ρ2 => QL (x :: xs) ρ2) : WDs B K (tCons te tr) ρ QL := fun F H σ E QQ k =>
  h F H σ E _ fun v x F1 H1 ρ1 E1 e1 rv q => q F1 H1 σ E1 _ fun vs as F3 H3 ρ3 E3 e3 as' q3 => k (v :: vs) (x :: as) F3 H3 ρ3 E3 (e1.trans e3) (.cons (Rp.mono e3 rv) as') q3

/-! ### displays -/
def lim : Nat := 1000000
theorem lim_le {n : Nat} (h : n ≤ lim) : n ≤ sizeLine := Nat.le_trans h (by decide)
theorem lim_lt {n : Nat} (h : n < lim) : n < sizeLine := Nat.lt_of_lt_of_le h (by decide)
theorem we_lst (h : WDs B K tl ρ fun xs ρ' => xs.length ≤ lim ∧ Q (.new xs) ρ') : WE B K (tLst tl) ρ Q := fun F H σ E QQ k =>
  h F H σ E _ fun vs xs F1 H1 ρ1 E1 e1 rv ⟨hz, q⟩ => ⟨by rw [rv.length]; exact lim_le hz, fun p hp => by
    have E2 := E1.allocO (o := .lst vs) hp
    exact k _ (.new xs) F1 _ ρ1 E2 e1 ⟨p, vs, rfl, E1.fh.free hp, upd_same, rv, E1.h0p hp, fun i => E1.fr hp i⟩ q⟩
theorem wd_tup (h : WDs B K tl ρ fun xs ρ' => xs.length ≤ lim ∧ QD (.tuple xs) ρ') : WD B K (tTup tl) ρ QD := fun F H σ E QQ k =>
  h F H σ E _ fun vs xs F1 H1 ρ1 E1 e1 rv ⟨hz, q⟩ => ⟨by rw [rv.length]; exact lim_le hz, fun p hp => by
    obtain ⟨E2, e2⟩ := E1.alloc (o := .tup vs) hp
    exact k _ _ _ _ ρ1 E2 (e1.trans e2) (.tup (.inl (.inl upd_same)) (rv.mono e2)) q⟩
/-- new objects made by value rules -/
theorem new_ok {F H : Hp} {σ : St} {ρ : En} (E : EnvOk B K F H σ ρ) {p : Addr} {vs : List V} {xs : List PyData} (hp : H p = none) (rv : RpA K F vs xs) :
    EnvOk B K F (upd H p (.lst vs)) σ ρ ∧ ROk B K F (upd H p (.lst vs)) σ ρ (.ref p) (.new xs) := by
  exact ⟨E.allocO hp, p, vs, rfl, E.fh.free hp, upd_same, rv, E.h0p hp, fun i => E.fr hp i⟩

/-! ### operators -/
abbrev rPlus (K : Fr) : R2 := fun x y H Q => (rI0 fun i j => .int (i + j)) x y H Q ∨ (∃ i j, x = .str i ∧ y = .str j ∧ i.length + j.length ≤ sizeLine ∧ Q (.str (i ++ j)) H) ∨ rCat x y H Q ∨ rCatA K x y H Q
theorem op_plus {X : Cx} : OpR X (binaryOp .Add) (rPlus X.K) := op_add.or (op_add_str.or (op_cat.or op_catA))
def Plus : PyData → PyData → (R → Prop) → Prop
  | .int i, .int j, k => k (.d (.int (i + j)))
  | .str s, .str t, k => s.length + t.length ≤ lim ∧ k (.d (.str (s ++ t)))
  | .list xs, .list ys, k => xs.length + ys.length ≤ lim ∧ k (.new (xs ++ ys))
  | _, _, _ => False
theorem we_plus (h : WD B K ta ρ fun x ρ1 => WD B K tb ρ1 fun y ρ2 => Plus x y fun r => Q r ρ2) : WE B K (tOp (rPlus K) ta tb) ρ Q := fun F H σ E QQ k =>
  h F H σ E _ fun v x F1 H1 ρ1 E1 e1 rv q => q F1 H1 σ E1 _ fun u y F2 H2 ρ2 E2 e2 ru q2 => by
    have e12 := e1.trans e2
    have rv' := Rp.mono e2 rv
    cases x <;> cases y <;> try exact False.elim q2
    · cases rv; cases ru
      exact .inl ⟨_, _, rfl, rfl, k _ (.d (.int _)) F2 H2 ρ2 E2 e12 (Rp.int _) q2⟩
    · cases rv; cases ru
      exact .inr (.inl ⟨_, _, rfl, rfl, lim_le q2.1, k _ (.d (.str _)) F2 H2 ρ2 E2 e12 (Rp.str _) q2.2⟩)
    · cases rv' with
      | @lst a vs xs ha ra =>
      cases ru with
      | @lst b ws ys hb rb =>
      refine .inr (.inr (.inl ⟨a, b, vs, ws, rfl, rfl, E2.fh _ _ ha, E2.fh _ _ hb, by rw [ra.length, rb.length]; exact lim_le q2.1, fun p hp => ?_⟩))
      obtain ⟨E3, r3⟩ := new_ok E2 hp (ra.append rb)
      exact k _ _ F2 _ ρ2 E3 e12 r3 q2.2
theorem wd_sub (h : WD B K ta ρ fun x ρ1 => ∃ i, x = .int i ∧ WD B K tb ρ1 fun y ρ2 => ∃ j, y = .int j ∧ QD (.int (i - j)) ρ2) : WD B K (tOp (rI0 fun i j => .int (i - j)) ta tb) ρ QD := fun F H σ E QQ k =>
  h F H σ E _ fun v x F1 H1 ρ1 E1 e1 rv ⟨i, hx, q⟩ => q F1 H1 σ E1 _ fun u y F2 H2 ρ2 E2 e2 ru ⟨j, hy, q2⟩ => by
    subst hx hy
    cases rv; cases ru
    exact ⟨i, j, rfl, rfl, k _ _ F2 H2 ρ2 E2 (e1.trans e2) (.int _) q2⟩
theorem wd_iop {C : Int → Int → Prop} {g : Int → Int → Int} (h : WD B K ta ρ fun x ρ1 => ∃ i, x = .int i ∧ WD B K tb ρ1 fun y ρ2 => ∃ j, y = .int j ∧ C i j ∧ QD (.int (g i j)) ρ2) : WD B K (tOp (rI C fun i j => .int (g i j)) ta tb) ρ QD := fun F H σ E QQ k =>
  h F H σ E _ fun v x F1 H1 ρ1 E1 e1 rv ⟨i, hx, q⟩ => q F1 H1 σ E1 _ fun u y F2 H2 ρ2 E2 e2 ru ⟨j, hy, hc, q2⟩ => by
    subst hx hy
    cases rv; cases ru
    exact ⟨i, j, rfl, rfl, hc, k _ _ F2 H2 ρ2 E2 (e1.trans e2) (.int _) q2⟩
theorem wd_neg (h : WD B K ta ρ fun x ρ1 => ∃ i, x = .int i ∧ QD (.int (-i)) ρ1) : WD B K (tUn (rU fun i => .int (-i)) ta) ρ QD := fun F H σ E QQ k =>
  h F H σ E _ fun v x F1 H1 ρ1 E1 e1 rv ⟨i, hx, q⟩ => by
    subst hx
    cases rv
    exact ⟨i, rfl, k _ _ F1 H1 ρ1 E1 e1 (.int _) q⟩
/-- list * int -/
theorem we_rep (h : WD B K ta ρ fun x ρ1 => ∃ xs, x = .list xs ∧ WD B K tb ρ1 fun y ρ2 => ∃ j, y = .int j ∧ 0 ≤ j ∧ j ≤ 1000000 ∧ xs.length * j.toNat ≤ lim ∧ Q (.new (List.replicate j.toNat xs).flatten) ρ2) : WE B K (tOp rRep ta tb) ρ Q := fun F H σ E QQ k =>
  h F H σ E _ fun v x F1 H1 ρ1 E1 e1 rv ⟨xs, hx, q⟩ => q F1 H1 σ E1 _ fun u y F2 H2 ρ2 E2 e2 ru ⟨j, hy, j0, j1, hl, q2⟩ => by
    subst hx hy
    have rv' := Rp.mono e2 rv
    cases ru
    cases rv' with
    | @lst a vs xs ha ra =>
    refine ⟨a, j, vs, rfl, rfl, E2.fh _ _ ha, by omega, by omega, by rw [ra.length]; exact lim_le hl, fun p hp => ?_⟩
    obtain ⟨E3, r3⟩ := new_ok E2 hp (ra.rep _)
    exact k _ _ F2 _ ρ2 E3 (e1.trans e2) r3 q2

/-! ### comparisons -/
theorem wd_lt {p : Int → Int → Bool} (h : WD B K ta ρ fun x ρ1 => ∃ i, x = .int i ∧ WD B K tb ρ1 fun y ρ2 => ∃ j, y = .int j ∧ QD (.bool (p i j)) ρ2) : WD B K (tOp (rI0 fun i j => .bl (p i j)) ta tb) ρ QD := fun F H σ E QQ k =>
  h F H σ E _ fun v x F1 H1 ρ1 E1 e1 rv ⟨i, hx, q⟩ => q F1 H1 σ E1 _ fun u y F2 H2 ρ2 E2 e2 ru ⟨j, hy, q2⟩ => by
    subst hx hy
    cases rv; cases ru
    exact ⟨i, j, rfl, rfl, k _ _ F2 H2 ρ2 E2 (e1.trans e2) (.bl _) q2⟩
/-- == and != of data -/
theorem wd_eqD (h : WD B K ta ρ fun x ρ1 => WD B K tb ρ1 fun y ρ2 => (noD x = true ∧ noD y = true ∧ SeqAt.shaped x = true ∧ SeqAt.shaped y = true) ∧ QD (.bool (PyData.eqv x y)) ρ2) : WD B K (tOp (rEqD K) ta tb) ρ QD := fun F H σ E QQ k =>
  h F H σ E _ fun v x F1 H1 ρ1 E1 e1 rv q => q F1 H1 σ E1 _ fun u y F2 H2 ρ2 E2 e2 ru ⟨⟨n1, n2, s1, s2⟩, q2⟩ =>
    ⟨x, y, Rp.dp E2.fh (Rp.mono e2 rv) n1, Rp.dp E2.fh ru n2, s1, s2, k _ _ F2 H2 ρ2 E2 (e1.trans e2) (.bl _) q2⟩
theorem wd_neD (h : WD B K ta ρ fun x ρ1 => WD B K tb ρ1 fun y ρ2 => (noD x = true ∧ noD y = true ∧ SeqAt.shaped x = true ∧ SeqAt.shaped y = true) ∧ QD (.bool (!PyData.eqv x y)) ρ2) : WD B K (tOp (rNeD K) ta tb) ρ QD := fun F H σ E QQ k =>
  h F H σ E _ fun v x F1 H1 ρ1 E1 e1 rv q => q F1 H1 σ E1 _ fun u y F2 H2 ρ2 E2 e2 ru ⟨⟨n1, n2, s1, s2⟩, q2⟩ =>
    ⟨x, y, Rp.dp E2.fh (Rp.mono e2 rv) n1, Rp.dp E2.fh ru n2, s1, s2, k _ _ F2 H2 ρ2 E2 (e1.trans e2) (.bl _) q2⟩
/-- own == data, own != data -/
theorem own_dp {F H : Hp} {σ : St} (E : EnvOk B K F H σ ρ) {i : Nat} {xs : List PyData} (h : ρ[i]? = some (some (.own xs))) (n : noDs xs = true) {v : V} (hv : σ[i]? = some (some v)) : Dp K H v (.list xs) := by
  obtain ⟨a, vs, e, _, k2, k3⟩ := E.own_at h
  rw [hv] at e
  cases e
  exact .lst (.inl (.inl k2)) (RpA.dp E.fh k3 n)
theorem wd_eqO {i : Nat} {zs : List PyData} (hi : ρ[i]? = some (some (.own zs))) (h : WD B K tb ρ fun y ρ2 => ∃ xs, ρ2[i]? = some (some (.own xs)) ∧ (noDs xs = true ∧ noD y = true ∧ SeqAt.shaped (.list xs) = true ∧ SeqAt.shaped y = true) ∧ QD (.bool (PyData.eqv (.list xs) y)) ρ2) : WD B K (tOp (rEqD K) (tVar i) tb) ρ QD := fun F H σ E QQ k => by
  obtain ⟨a, vs, e, _⟩ := E.own_at hi
  exact ⟨.ref a, e, h F H σ E _ fun u y F2 H2 ρ2 E2 e2 ru ⟨xs, hx, ⟨n1, n2, s1, s2⟩, q2⟩ => ⟨_, y, own_dp E2 hx n1 e, Rp.dp E2.fh ru n2, s1, s2, k _ _ F2 H2 ρ2 E2 e2 (.bl _) q2⟩⟩
theorem wd_neO {i : Nat} {zs : List PyData} (hi : ρ[i]? = some (some (.own zs))) (h : WD B K tb ρ fun y ρ2 => ∃ xs, ρ2[i]? = some (some (.own xs)) ∧ (noDs xs = true ∧ noD y = true ∧ SeqAt.shaped (.list xs) = true ∧ SeqAt.shaped y = true) ∧ QD (.bool (!PyData.eqv (.list xs) y)) ρ2) : WD B K (tOp (rNeD K) (tVar i) tb) ρ QD := fun F H σ E QQ k => by
  obtain ⟨a, vs, e, _⟩ := E.own_at hi
  exact ⟨.ref a, e, h F H σ E _ fun u y F2 H2 ρ2 E2 e2 ru ⟨xs, hx, ⟨n1, n2, s1, s2⟩, q2⟩ => ⟨_, y, own_dp E2 hx n1 e, Rp.dp E2.fh ru n2, s1, s2, k _ _ F2 H2 ρ2 E2 e2 (.bl _) q2⟩⟩
def isNon : PyData → Bool
  | .none => true
  | _ => false
/-- is None -/
theorem wd_isN (h : WD B K ta ρ fun x ρ1 => QD (.bool (isNon x)) ρ1) : WD B K (tIsN ta) ρ QD := fun F H σ E QQ k =>
  h F H σ E _ fun v x F1 H1 ρ1 E1 e1 rv q => by
    have e : V.bl (decide (v = .non)) = V.bl (isNon x) := by cases rv <;> rfl
    rw [e]
    exact k _ _ F1 H1 ρ1 E1 e1 (.bl _) q
theorem wd_notN (h : WD B K ta ρ fun x ρ1 => QD (.bool (!isNon x)) ρ1) : WD B K (tNotN ta) ρ QD := fun F H σ E QQ k =>
  h F H σ E _ fun v x F1 H1 ρ1 E1 e1 rv q => by
    have e : V.bl (!decide (v = .non)) = V.bl (!isNon x) := by cases rv <;> rfl
    rw [e]
    exact k _ _ F1 H1 ρ1 E1 e1 (.bl _) q

/-! ### tests -/
theorem wt_test (h : WD B K te ρ fun x ρ1 => ∃ b, x = .bool b ∧ QT b ρ1) : WT B K (tTest te) ρ QT := fun F H σ E QQ k =>
  h F H σ E _ fun v x F1 H1 ρ1 E1 e1 rv ⟨b, hx, q⟩ => by
    subst hx
    cases rv
    exact ⟨b, rfl, k b F1 H1 ρ1 E1 e1 q⟩
theorem wt_B (h : WD B K te ρ fun x ρ1 => ∃ b, x = .bool b ∧ QT b ρ1) : WT B K (tB te) ρ QT := fun F H σ E QQ k =>
  h F H σ E _ fun v x F1 H1 ρ1 E1 e1 rv ⟨b, hx, q⟩ => by
    subst hx
    cases rv
    exact ⟨b, rfl, k b F1 H1 ρ1 E1 e1 q⟩
theorem wt_and {t u : TT} (h : WT B K t ρ fun b ρ1 => (b = true → WT B K u ρ1 QT) ∧ (b = false → QT false ρ1)) : WT B K (tAnd t u) ρ QT := fun F H σ E QQ k =>
  h F H σ E _ fun b F1 H1 ρ1 E1 e1 q => by
    cases b with
    | true => exact q.1 rfl F1 H1 σ E1 _ fun b F2 H2 ρ2 E2 e2 q2 => k b F2 H2 ρ2 E2 (e1.trans e2) q2
    | false => exact k false F1 H1 ρ1 E1 e1 (q.2 rfl)
theorem wt_or {t u : TT} (h : WT B K t ρ fun b ρ1 => (b = true → QT true ρ1) ∧ (b = false → WT B K u ρ1 QT)) : WT B K (tOr t u) ρ QT := fun F H σ E QQ k =>
  h F H σ E _ fun b F1 H1 ρ1 E1 e1 q => by
    cases b with
    | false => exact q.2 rfl F1 H1 σ E1 _ fun b F2 H2 ρ2 E2 e2 q2 => k b F2 H2 ρ2 E2 (e1.trans e2) q2
    | true => exact k true F1 H1 ρ1 E1 e1 (q.1 rfl)
theorem wt_not {t : TT} (h : WT B K t ρ fun b ρ1 => QT (!b) ρ1) : WT B K (tNot t) ρ QT := fun F H σ E QQ k =>
  h F H σ E _ fun b F1 H1 ρ1 E1 e1 q => k (!b) F1 H1 ρ1 E1 e1 q
theorem wt_mono {t : TT} {Q' : Bool → En → Prop} (h : WT B K t ρ Q') (i : ∀ b ρ', Q' b ρ' → QT b ρ') : WT B K t ρ QT := fun F H σ E QQ k =>
  h F H σ E QQ fun v F' H' ρ' E' ef q => k v F' H' ρ' E' ef (i v ρ' q)
theorem wd_andV (h : WD B K ta ρ fun x ρ1 => ∃ b, x = .bool b ∧ (b = true → WD B K tb ρ1 QD) ∧ (b = false → QD (.bool false) ρ1)) : WD B K (tAndV ta tb) ρ QD := fun F H σ E QQ k =>
  h F H σ E _ fun v x F1 H1 ρ1 E1 e1 rv ⟨b, hx, q⟩ => by
    subst hx
    cases rv
    refine ⟨b, rfl, ?_⟩
    cases b with
    | true => exact q.1 rfl F1 H1 σ E1 _ fun v x F2 H2 ρ2 E2 e2 r2 q2 => k v x F2 H2 ρ2 E2 (e1.trans e2) r2 q2
    | false => exact k _ _ F1 H1 ρ1 E1 e1 (.bl false) (q.2 rfl)
theorem wd_orV (h : WD B K ta ρ fun x ρ1 => ∃ b, x = .bool b ∧ (b = true → QD (.bool true) ρ1) ∧ (b = false → WD B K tb ρ1 QD)) : WD B K (tOrV ta tb) ρ QD := fun F H σ E QQ k =>
  h F H σ E _ fun v x F1 H1 ρ1 E1 e1 rv ⟨b, hx, q⟩ => by
    subst hx
    cases rv
    refine ⟨b, rfl, ?_⟩
    cases b with
    | false => exact q.2 rfl F1 H1 σ E1 _ fun v x F2 H2 ρ2 E2 e2 r2 q2 => k v x F2 H2 ρ2 E2 (e1.trans e2) r2 q2
    | true => exact k _ _ F1 H1 ρ1 E1 e1 (.bl true) (q.1 rfl)
theorem wd_notV (h : WD B K ta ρ fun x ρ1 => ∃ b, x = .bool b ∧ QD (.bool (!b)) ρ1) : WD B K (tNotV ta) ρ QD := fun F H σ E QQ k =>
  h F H σ E _ fun v x F1 H1 ρ1 E1 e1 rv ⟨b, hx, q⟩ => by
    subst hx
    cases rv
    exact ⟨b, rfl, k _ _ F1 H1 ρ1 E1 e1 (.bl _) q⟩
theorem we_if (h : WT B K tt ρ fun b ρ1 => (b = true → WE B K ta ρ1 Q) ∧ (b = false → WE B K tb ρ1 Q)) : WE B K (tIf tt ta tb) ρ Q := fun F H σ E QQ k =>
  h F H σ E _ fun b F1 H1 ρ1 E1 e1 q => by
    cases b with
    | true => exact q.1 rfl F1 H1 σ E1 _ fun v r F2 H2 ρ2 E2 e2 r2 q2 => k v r F2 H2 ρ2 E2 (e1.trans e2) r2 q2
    | false => exact q.2 rfl F1 H1 σ E1 _ fun v r F2 H2 ρ2 E2 e2 r2 q2 => k v r F2 H2 ρ2 E2 (e1.trans e2) r2 q2

/-! ### subscripts -/
def Idx : PyData → PyData → (PyData → Prop) → Prop
  | .list xs, .int i, k => ∃ d, atI xs i = some d ∧ k d
  | .tuple xs, .int i, k => ∃ d, atI xs i = some d ∧ k d
  | .str z, .int i, k => z.length ≤ lim ∧ ∃ c, atI z.cps.toList i = some c ∧ k (.str ⟨#[c]⟩)
  | _, _, _ => False
theorem RpA.at {F : Hp} {vs : List V} {xs : List PyData} {i : Int} {d : PyData} (r : RpA K F vs xs) (h : atI xs i = some d) : ∃ v, atI vs i = some v ∧ Rp K F v d := by
  unfold atI at h ⊢
  rw [r.length]
  cases e : ixN xs.length i with
  | none => rw [e] at h; cases h
  | some j =>
    rw [e] at h
    obtain ⟨v, hv, q⟩ := r.get' (i := j) h
    exact ⟨v, hv, q⟩
theorem wd_ix (h : WD B K ta ρ fun x ρ1 => WD B K tb ρ1 fun y ρ2 => Idx x y fun z => QD z ρ2) : WD B K (tOp (rIx K) ta tb) ρ QD := fun F H σ E QQ k =>
  h F H σ E _ fun v x F1 H1 ρ1 E1 e1 rv q => q F1 H1 σ E1 _ fun u y F2 H2 ρ2 E2 e2 ru q2 => by
    have e12 := e1.trans e2
    have rv' := Rp.mono e2 rv
    cases x <;> cases y <;> try exact False.elim q2
    · cases rv'; cases ru
      obtain ⟨hz, c, hc, q3⟩ := q2
      exact .inr (.inr ⟨_, _, c, rfl, rfl, lim_le hz, hc, k _ _ F2 H2 ρ2 E2 e12 (.str _) q3⟩)
    · cases ru
      obtain ⟨d, hd, q3⟩ := q2
      cases rv' with
      | @lst a vs xs ha ra =>
      obtain ⟨w, hw, rw'⟩ := ra.at hd
      exact .inl ⟨a, vs, _, w, rfl, rfl, .inl (.inl (E2.fh _ _ ha)), hw, k _ _ F2 H2 ρ2 E2 e12 rw' q3⟩
    · cases ru
      obtain ⟨d, hd, q3⟩ := q2
      cases rv' with
      | @tup a vs xs ha ra =>
      obtain ⟨w, hw, rw'⟩ := ra.at hd
      exact .inr (.inl ⟨a, vs, _, w, rfl, rfl, E2.fh.stt ha, hw, k _ _ F2 H2 ρ2 E2 e12 rw' q3⟩)
theorem wd_ixO {j : Nat} {zs : List PyData} (hj : ρ[j]? = some (some (.own zs))) (h : WD B K tb ρ fun y ρ2 => ∃ xs i d, ρ2[j]? = some (some (.own xs)) ∧ y = .int i ∧ atI xs i = some d ∧ QD d ρ2) : WD B K (tOp (rIx K) (tVar j) tb) ρ QD := fun F H σ E QQ k => by
  obtain ⟨a, vs, e, _⟩ := E.own_at hj
  refine ⟨.ref a, e, h F H σ E _ fun u y F2 H2 ρ2 E2 e2 ru ⟨xs, i, d, hx, hy, hd, q2⟩ => ?_⟩
  subst hy
  cases ru
  obtain ⟨a', vs', e', _, k2, k3⟩ := E2.own_at hx
  rw [e] at e'
  cases e'
  obtain ⟨w, hw, rw'⟩ := k3.at hd
  exact .inl ⟨a, vs', i, w, rfl, rfl, .inl (.inl k2), hw, k _ _ F2 H2 ρ2 E2 e2 rw' q2⟩
theorem wd_ixS {j : Nat} {ns : List Int} (hj : ρ[j]? = some (some (.scr ns))) (h : WD B K tb ρ fun y ρ2 => ∃ i n, y = .int i ∧ atI ns i = some n ∧ QD (.int n) ρ2) : WD B K (tOp (rIx K) (tVar j) tb) ρ QD := fun F H σ E QQ k => by
  obtain ⟨v, e, a, hv, hs⟩ := E.sl j _ hj
  subst hv
  refine ⟨.ref a, e, h F H σ E _ fun u y F2 H2 ρ2 E2 e2 ru ⟨i, n, hy, hn, q2⟩ => ?_⟩
  subst hy
  cases ru
  have hw : atI (ns.map V.int) i = some (.int n) := by
    unfold atI at hn ⊢
    rw [List.length_map]
    cases e : ixN ns.length i with
    | none => rw [e] at hn; cases hn
    | some j =>
      rw [e] at hn
      show (ns.map V.int)[j]? = _
      rw [List.getElem?_map, show ns[j]? = some n from hn]
      rfl
  exact .inl ⟨a, _, i, _, rfl, rfl, E2.fh.sl (e2.sl hs), hw, k _ _ F2 H2 ρ2 E2 e2 (.int n) q2⟩
/-! ### slices -/
theorem wo_none (q : QO none ρ) : WO B K tNoPart ρ QO := fun F H σ E QQ k => k none F H ρ E (Ex.refl F) q
theorem wo_some (h : WD B K te ρ fun x ρ1 => ∃ i, x = .int i ∧ QO (some i) ρ1) : WO B K (tPart te) ρ QO := fun F H σ E QQ k =>
  h F H σ E _ fun v x F1 H1 ρ1 E1 e1 rv ⟨i, hx, q⟩ => by
    subst hx
    cases rv
    exact ⟨i, rfl, k (some i) F1 H1 ρ1 E1 e1 q⟩
def cutD {α : Type} (xs : List α) (lo hi : Option Int) : List α := (xs.drop (HT.sIx xs.length 0 lo)).take (HT.sIx xs.length xs.length hi - HT.sIx xs.length 0 lo)
theorem RpA.cut {F : Hp} {vs : List V} {xs : List PyData} (r : RpA K F vs xs) (lo hi : Option Int) : RpA K F (cutV vs lo hi) (cutD xs lo hi) := by
  unfold cutV cutD
  rw [r.length]
  exact (r.drop _).take _
theorem cutV_map {α : Type} (f : α → V) (xs : List α) (lo hi : Option Int) : cutV (xs.map f) lo hi = (cutD xs lo hi).map f := by
  unfold cutV cutD
  rw [List.length_map, List.map_take, List.map_drop]
theorem cutD_map {α β : Type} (f : α → β) (xs : List α) (lo hi : Option Int) : cutD (xs.map f) lo hi = (cutD xs lo hi).map f := by
  unfold cutD
  rw [List.length_map, List.map_take, List.map_drop]
abbrev rSlAny (K : Fr) : V → Option Int → Option Int → Hp → VK → Prop := fun x lo hi H Q => rSlL K x lo hi H Q ∨ rSlA K x lo hi H Q ∨ rSlS x lo hi H Q
theorem sl_any {X : Cx} : SlR X (rSlAny X.K) := sl_list.or (sl_tupA.or sl_str)
end
end SV

set_option maxHeartbeats 1000000
namespace SV
open PySem PySem.Spec L2
open Evl (Ex)

/-! ### slots that may be stored -/
def NP (B : Bs) (i : Nat) : Prop := ∀ a, B.pin ≠ some (i, a)
theorem np_of {B : Bs} {p : Option Nat} {i : Nat} (h : B.pin.map Prod.fst = p) (n : p ≠ some i) : NP B i := fun a e => n (by rw [← h, e]; rfl)
section
variable {B : Bs} {K : Fr} {ρ : En} {ta tb te : TE} {tt : TT} {tr tl : TA} {Q : R → En → Prop} {QD : PyData → En → Prop} {QT : Bool → En → Prop} {QA : List Ar → En → Prop} {QO : Option Int → En → Prop} {Z : Zs}

/-! ### slices -/
def Slc : PyData → Option Int → Option Int → (R → Prop) → Prop
  | .list xs, lo, hi, k => k (.new (cutD xs lo hi))
  | .tuple xs, lo, hi, k => k (.d (.tuple (cutD xs lo hi)))
  | .str z, lo, hi, k => z.length ≤ lim ∧ k (.d (.str (cutS z lo hi)))
  | _, _, _, _ => False
theorem cutD_all {α : Type} {xs : List α} {lo hi : Option Int} (h1 : HT.sIx xs.length 0 lo = 0) (h2 : HT.sIx xs.length xs.length hi = xs.length) : cutD xs lo hi = xs := by
  unfold cutD
  rw [h1, h2, List.drop_zero, Nat.sub_zero, List.take_length]
theorem we_sl {t1 t2 : TO} (h : WD B K te ρ fun x ρ1 => WO B K t1 ρ1 fun lo ρ2 => WO B K t2 ρ2 fun hi ρ3 => Slc x lo hi fun r => Q r ρ3) : WE B K (tSl (rSlAny K) te t1 t2) ρ Q := fun F H σ E QQ k =>
  h F H σ E _ fun v x F1 H1 ρ1 E1 e1 rv q => q F1 H1 σ E1 _ fun lo F2 H2 ρ2 E2 e2 q2 => q2 F2 H2 σ E2 _ fun hi F3 H3 ρ3 E3 e3 q3 => by
    have e13 := e1.trans (e2.trans e3)
    have rv' := Rp.mono (e2.trans e3) rv
    cases x <;> try exact False.elim q3
    · cases rv'
      exact .inr (.inr ⟨_, rfl, lim_le q3.1, k _ (.d (.str _)) F3 H3 ρ3 E3 e13 (Rp.str _) q3.2⟩)
    · cases rv' with
      | @lst a vs xs ha ra =>
      refine .inl ⟨a, vs, rfl, .inl (.inl (E3.fh _ _ ha)), fun p hp => ?_⟩
      obtain ⟨E4, r4⟩ := new_ok E3 hp (ra.cut lo hi)
      exact k _ _ F3 _ ρ3 E4 e13 r4 q3
    · cases rv' with
      | @tup a vs xs ha ra =>
      refine .inr (.inl ⟨a, vs, rfl, E3.fh.stt ha, fun w => ?_, fun w p hp => ?_⟩)
      · refine k _ (.d (.tuple (cutD _ lo hi))) F3 H3 ρ3 E3 e13 ?_ q3
        rw [cutD_all (by rw [← ra.length]; exact w.1) (by rw [← ra.length]; exact w.2)]
        exact Rp.tup ha ra
      · obtain ⟨E4, e4⟩ := E3.alloc (o := .tup (cutV vs lo hi)) hp
        exact k _ (.d (.tuple _)) _ _ ρ3 E4 (e13.trans e4) (Rp.tup (.inl (.inl upd_same)) ((ra.cut lo hi).mono e4)) q3
theorem we_slS {j : Nat} {ns : List Int} {t1 t2 : TO} (hj : ρ[j]? = some (some (.scr ns))) (h : WO B K t1 ρ fun lo ρ2 => WO B K t2 ρ2 fun hi ρ3 => Q (.new ((cutD ns lo hi).map .int)) ρ3) : WE B K (tSl (rSlAny K) (tVar j) t1 t2) ρ Q := fun F H σ E QQ k => by
  obtain ⟨v, e, a, hv, hs⟩ := E.sl j _ hj
  subst hv
  refine ⟨.ref a, e, h F H σ E _ fun lo F2 H2 ρ2 E2 e2 q2 => q2 F2 H2 σ E2 _ fun hi F3 H3 ρ3 E3 e3 q3 => ?_⟩
  refine .inl ⟨a, _, rfl, E3.fh.sl ((e2.trans e3).sl hs), fun p hp => ?_⟩
  obtain ⟨E4, r4⟩ := new_ok E3 hp (RpA.of_ints (K := K) (F := F3) (cutD ns lo hi))
  rw [cutV_map]
  exact k _ _ F3 _ ρ3 E4 (e2.trans e3) r4 q3
theorem we_slO {j : Nat} {zs : List PyData} {t1 t2 : TO} (hj : ρ[j]? = some (some (.own zs))) (h : WO B K t1 ρ fun lo ρ2 => WO B K t2 ρ2 fun hi ρ3 => ∃ xs, ρ3[j]? = some (some (.own xs)) ∧ Q (.new (cutD xs lo hi)) ρ3) : WE B K (tSl (rSlAny K) (tVar j) t1 t2) ρ Q := fun F H σ E QQ k => by
  obtain ⟨a, vs, e, _⟩ := E.own_at hj
  refine ⟨.ref a, e, h F H σ E _ fun lo F2 H2 ρ2 E2 e2 q2 => q2 F2 H2 σ E2 _ fun hi F3 H3 ρ3 E3 e3 ⟨xs, hx, q3⟩ => ?_⟩
  obtain ⟨a', ws, e', _, k2, k3⟩ := E3.own_at hx
  rw [e] at e'
  cases e'
  refine .inl ⟨a, ws, rfl, .inl (.inl k2), fun p hp => ?_⟩
  obtain ⟨E4, r4⟩ := new_ok E3 hp (k3.cut lo hi)
  exact k _ _ F3 _ ρ3 E4 (e2.trans e3) r4 q3

/-! ### len -/
abbrev rLen (K : Fr) : List V → Hp → VK → Prop := fun xs H Q => ∃ x n, xs = [x] ∧ LenV K x H n ∧ Q (.int n) H
def Len : PyData → (Int → Prop) → Prop
  | .list xs, k => k xs.length
  | .tuple xs, k => k xs.length
  | .str z, k => z.length ≤ lim ∧ k z.length
  | _, _ => False
theorem wd_len (h : WD B K te ρ fun x ρ1 => Len x fun n => QD (.int n) ρ1) : WD B K (tCB (rLen K) (tCons te tNil)) ρ QD := fun F H σ E QQ k =>
  h F H σ E _ fun v x F1 H1 ρ1 E1 e1 rv q => by
    cases x <;> try exact False.elim q
    · cases rv
      exact ⟨_, _, rfl, ⟨lim_le q.1, rfl⟩, k _ _ F1 H1 ρ1 E1 e1 (.int _) q.2⟩
    · cases rv with
      | @lst a vs xs ha ra => exact ⟨_, vs.length, rfl, .inl ⟨vs, .inl (.inl (E1.fh _ _ ha)), rfl⟩, k _ _ F1 H1 ρ1 E1 e1 (by rw [ra.length]; exact .int _) q⟩
    · cases rv with
      | @tup a vs xs ha ra => exact ⟨_, vs.length, rfl, .inr ⟨vs, E1.fh.stt ha, rfl⟩, k _ _ F1 H1 ρ1 E1 e1 (by rw [ra.length]; exact .int _) q⟩
theorem wd_lenO {j : Nat} {xs : List PyData} (hj : ρ[j]? = some (some (.own xs))) (q : QD (.int xs.length) ρ) : WD B K (tCB (rLen K) (tCons (tVar j) tNil)) ρ QD := fun F H σ E QQ k => by
  obtain ⟨a, vs, e, _, k2, k3⟩ := E.own_at hj
  exact ⟨.ref a, e, _, vs.length, rfl, .inl ⟨vs, .inl (.inl k2), rfl⟩, k _ _ F H ρ E (Ex.refl F) (by rw [k3.length]; exact .int _) q⟩
theorem wd_lenS {j : Nat} {ns : List Int} (hj : ρ[j]? = some (some (.scr ns))) (q : QD (.int ns.length) ρ) : WD B K (tCB (rLen K) (tCons (tVar j) tNil)) ρ QD := fun F H σ E QQ k => by
  obtain ⟨v, e, a, hv, hs⟩ := E.sl j _ hj
  subst hv
  exact ⟨.ref a, e, _, _, rfl, .inl ⟨_, E.fh.sl hs, rfl⟩, k _ _ F H ρ E (Ex.refl F) (by rw [List.length_map]; exact .int _) q⟩

/-! ### isinstance of plain data against a built-in type -/
inductive Ty where | int | bool | str | tuple | list | dict | non
def Ty.name : Ty → String
  | .int => "int" | .bool => "bool" | .str => "str" | .tuple => "tuple" | .list => "list" | .dict => "dict" | .non => "NoneType"
def tyD : PyData → Ty
  | .int _ => .int | .bool _ => .bool | .str _ => .str | .tuple _ => .tuple | .list _ => .list | .dict _ => .dict | .none => .non
def isTy : Ty → Ty → Bool
  | .int, .int => true | .bool, .bool => true | .bool, .int => true | .str, .str => true | .tuple, .tuple => true | .list, .list => true | .dict, .dict => true | .non, .non => true
  | _, _ => false
theorem kit_ok (a b : Ty) : PySem.W.kitOne K (.type a.name) (.type b.name) = some (isTy a b) := by
  cases a <;> cases b <;> exact kit_ty (by decide +kernel)
theorem tyx_of {F H : Hp} {v : V} {x : PyData} (e : Ex F H) (r : Rp K F v x) : TyX K H v (.type (tyD x).name) := by
  cases r with
  | non => exact .base .non
  | bl b => exact .base (.bl b)
  | int b => exact .base (.int b)
  | str b => exact .base (.str b)
  | lst h _ => exact .base (.lst (e _ _ h))
  | tup h _ =>
    rcases h with (h | ⟨o, h⟩) | ⟨o, its, n, ho, hc, _⟩
    · exact .base (.tup (e _ _ h))
    · exact .fTuple (e _ _ h)
    · exact .kTuple ho hc
  | dct h => exact .base (.dK (e _ _ h))
theorem wd_isi (t : Ty) (h : WD B K te ρ fun x ρ1 => QD (.bool (isTy (tyD x) t)) ρ1) : WD B K (tCB (rIsi K) (tCons te (tCons (tC (.ty t.name)) tNil))) ρ QD := fun F H σ E QQ k =>
  h F H σ E _ fun v x F1 H1 ρ1 E1 e1 rv q => ⟨v, .ty t.name, .type (tyD x).name, .type t.name, isTy (tyD x) t, rfl, .ty _, tyx_of E1.fh rv, kit_ok _ _, k _ _ F1 H1 ρ1 E1 e1 (.bl _) q⟩

theorem wd_isi_int (h : WD B K te ρ fun x ρ1 => QD (.bool (isTy (tyD x) .int)) ρ1) : WD B K (tCB (rIsi K) (tCons te (tCons (tC (.ty "int")) tNil))) ρ QD := wd_isi .int h
theorem wd_isi_bool (h : WD B K te ρ fun x ρ1 => QD (.bool (isTy (tyD x) .bool)) ρ1) : WD B K (tCB (rIsi K) (tCons te (tCons (tC (.ty "bool")) tNil))) ρ QD := wd_isi .bool h
theorem wd_isi_str (h : WD B K te ρ fun x ρ1 => QD (.bool (isTy (tyD x) .str)) ρ1) : WD B K (tCB (rIsi K) (tCons te (tCons (tC (.ty "str")) tNil))) ρ QD := wd_isi .str h
theorem wd_isi_tuple (h : WD B K te ρ fun x ρ1 => QD (.bool (isTy (tyD x) .tuple)) ρ1) : WD B K (tCB (rIsi K) (tCons te (tCons (tC (.ty "tuple")) tNil))) ρ QD := wd_isi .tuple h
theorem wd_isi_list (h : WD B K te ρ fun x ρ1 => QD (.bool (isTy (tyD x) .list)) ρ1) : WD B K (tCB (rIsi K) (tCons te (tCons (tC (.ty "list")) tNil))) ρ QD := wd_isi .list h
theorem wd_isi_dict (h : WD B K te ρ fun x ρ1 => QD (.bool (isTy (tyD x) .dict)) ρ1) : WD B K (tCB (rIsi K) (tCons te (tCons (tC (.ty "dict")) tNil))) ρ QD := wd_isi .dict h
/-! ### a call of a built-in on data, by values -/
theorem wd_max2 (h : WD B K ta ρ fun x ρ1 => ∃ i, x = .int i ∧ WD B K tb ρ1 fun y ρ2 => ∃ j, y = .int j ∧ QD (.int (if j > i then j else i)) ρ2) : WD B K (tCB (fun xs H Q => ∃ i j, xs = [.int i, .int j] ∧ Q (.int (if j > i then j else i)) H) (tCons ta (tCons tb tNil))) ρ QD := fun F H σ E QQ k =>
  h F H σ E _ fun v x F1 H1 ρ1 E1 e1 rv ⟨i, hx, q⟩ => q F1 H1 σ E1 _ fun u y F2 H2 ρ2 E2 e2 ru ⟨j, hy, q2⟩ => by
    subst hx hy
    cases rv; cases ru
    exact ⟨i, j, rfl, k _ _ F2 H2 ρ2 E2 (e1.trans e2) (.int _) q2⟩
theorem wd_min2 (h : WD B K ta ρ fun x ρ1 => ∃ i, x = .int i ∧ WD B K tb ρ1 fun y ρ2 => ∃ j, y = .int j ∧ QD (.int (if j < i then j else i)) ρ2) : WD B K (tCB (fun xs H Q => ∃ i j, xs = [.int i, .int j] ∧ Q (.int (if j < i then j else i)) H) (tCons ta (tCons tb tNil))) ρ QD := fun F H σ E QQ k =>
  h F H σ E _ fun v x F1 H1 ρ1 E1 e1 rv ⟨i, hx, q⟩ => q F1 H1 σ E1 _ fun u y F2 H2 ρ2 E2 e2 ru ⟨j, hy, q2⟩ => by
    subst hx hy
    cases rv; cases ru
    exact ⟨i, j, rfl, k _ _ F2 H2 ρ2 E2 (e1.trans e2) (.int _) q2⟩
theorem wd_maxL (h : WD B K te ρ fun x ρ1 => ∃ ns : List Int, x = .list (ns.map .int) ∧ 0 < ns.length ∧ ∀ m, m ∈ ns → (∀ y, y ∈ ns → y ≤ m) → QD (.int m) ρ1) : WD B K (tCB (rMax K) (tCons te tNil)) ρ QD := fun F H σ E QQ k =>
  h F H σ E _ fun v x F1 H1 ρ1 E1 e1 rv ⟨ns, hx, hn, q⟩ => by
    subst hx
    cases rv with
    | @lst a vs xs ha ra =>
    have e := ra.ints
    subst e
    exact ⟨a, ns, rfl, .inl (.inl (E1.fh _ _ ha)), hn, fun m hm hy => k _ _ F1 H1 ρ1 E1 e1 (.int m) (q m hm hy)⟩
theorem wd_minL (h : WD B K te ρ fun x ρ1 => ∃ ns : List Int, x = .list (ns.map .int) ∧ 0 < ns.length ∧ ∀ m, m ∈ ns → (∀ y, y ∈ ns → m ≤ y) → QD (.int m) ρ1) : WD B K (tCB (rMin K) (tCons te tNil)) ρ QD := fun F H σ E QQ k =>
  h F H σ E _ fun v x F1 H1 ρ1 E1 e1 rv ⟨ns, hx, hn, q⟩ => by
    subst hx
    cases rv with
    | @lst a vs xs ha ra =>
    have e := ra.ints
    subst e
    exact ⟨a, ns, rfl, .inl (.inl (E1.fh _ _ ha)), hn, fun m hm hy => k _ _ F1 H1 ρ1 E1 e1 (.int m) (q m hm hy)⟩
theorem wd_sum (h : WD B K te ρ fun x ρ1 => ∃ ns : List Int, x = .list (ns.map .int) ∧ QD (.int ns.sum) ρ1) : WD B K (tCB (rSum K) (tCons te tNil)) ρ QD := fun F H σ E QQ k =>
  h F H σ E _ fun v x F1 H1 ρ1 E1 e1 rv ⟨ns, hx, q⟩ => by
    subst hx
    cases rv with
    | @lst a vs xs ha ra =>
    have e := ra.ints
    subst e
    exact ⟨a, ns, rfl, .inl (.inl (E1.fh _ _ ha)), k _ _ F1 H1 ρ1 E1 e1 (.int _) q⟩
/-- list(xs), list(t) -/
abbrev rListOf (K : Fr) : List V → Hp → VK → Prop := fun xs H Q => ∃ p ys, xs = [.ref p] ∧ (SqL K H p ys ∨ SqT K H p ys) ∧ ∀ l, H l = none → Q (.ref l) (upd H l (.lst ys))
def Lof : PyData → (List PyData → Prop) → Prop
  | .list xs, k => k xs
  | .tuple xs, k => k xs
  | _, _ => False
theorem lof_list {xs : List PyData} {k : List PyData → Prop} (h : k xs) : Lof (.list xs) k := h
theorem lof_tup {xs : List PyData} {k : List PyData → Prop} (h : k xs) : Lof (.tuple xs) k := h
theorem we_list (h : WD B K te ρ fun x ρ1 => Lof x fun xs => Q (.new xs) ρ1) : WE B K (tCB (rListOf K) (tCons te tNil)) ρ Q := fun F H σ E QQ k =>
  h F H σ E _ fun v x F1 H1 ρ1 E1 e1 rv q => by
    cases x <;> try exact False.elim q
    · cases rv with
      | @lst a vs xs ha ra =>
      refine ⟨a, vs, rfl, .inl (.inl (.inl (E1.fh _ _ ha))), fun p hp => ?_⟩
      obtain ⟨E4, r4⟩ := new_ok E1 hp ra
      exact k _ _ F1 _ ρ1 E4 e1 r4 q
    · cases rv with
      | @tup a vs xs ha ra =>
      refine ⟨a, vs, rfl, .inr (E1.fh.stt ha), fun p hp => ?_⟩
      obtain ⟨E4, r4⟩ := new_ok E1 hp ra
      exact k _ _ F1 _ ρ1 E4 e1 r4 q
/-- tuple(xs) of a list -/
abbrev rTupOf (K : Fr) : List V → Hp → VK → Prop := fun xs H Q => ∃ p ys, xs = [.ref p] ∧ ((SqL K H p ys ∧ ∀ l, H l = none → Q (.ref l) (upd H l (.tup ys))) ∨ (SqT K H p ys ∧ Q (.ref p) H))
theorem wd_tupOf (h : WD B K te ρ fun x ρ1 => ∃ xs, x = .list xs ∧ QD (.tuple xs) ρ1) : WD B K (tCB (rTupOf K) (tCons te tNil)) ρ QD := fun F H σ E QQ k =>
  h F H σ E _ fun v x F1 H1 ρ1 E1 e1 rv ⟨xs, hx, q⟩ => by
    subst hx
    cases rv with
    | @lst a vs xs ha ra =>
    refine ⟨a, vs, rfl, .inl ⟨.inl (.inl (E1.fh _ _ ha)), fun p hp => ?_⟩⟩
    obtain ⟨E4, e4⟩ := E1.alloc (o := .tup vs) hp
    exact k _ _ _ _ ρ1 E4 (e1.trans e4) (.tup (.inl (.inl upd_same)) (ra.mono e4)) q
theorem wd_tupOfO {j : Nat} {xs : List PyData} (hj : ρ[j]? = some (some (.own xs))) (q : QD (.tuple xs) ρ) : WD B K (tCB (rTupOf K) (tCons (tVar j) tNil)) ρ QD := fun F H σ E QQ k => by
  obtain ⟨a, vs, e, _, k2, k3⟩ := E.own_at hj
  refine ⟨.ref a, e, a, vs, rfl, .inl ⟨.inl (.inl k2), fun p hp => ?_⟩⟩
  obtain ⟨E4, e4⟩ := E.alloc (o := .tup vs) hp
  exact k _ _ _ _ ρ E4 e4 (.tup (.inl (.inl upd_same)) (k3.mono e4)) q
theorem we_listO {j : Nat} {xs : List PyData} (hj : ρ[j]? = some (some (.own xs))) (q : Q (.new xs) ρ) : WE B K (tCB (rListOf K) (tCons (tVar j) tNil)) ρ Q := fun F H σ E QQ k => by
  obtain ⟨a, vs, e, _, k2, k3⟩ := E.own_at hj
  refine ⟨.ref a, e, a, vs, rfl, .inl (.inl (.inl k2)), fun p hp => ?_⟩
  obtain ⟨E4, r4⟩ := new_ok E hp k3
  exact k _ _ F _ ρ E4 (Ex.refl F) r4 q
/-- int(b), int(i) -/
abbrev rInt1 : List V → Hp → VK → Prop := fun xs H Q => (∃ i, xs = [.int i] ∧ Q (.int i) H) ∨ ∃ k, xs = [.bl k] ∧ Q (.int (if k then 1 else 0)) H
theorem wd_int1 (h : WD B K te ρ fun x ρ1 => match x with | .int i => QD (.int i) ρ1 | .bool b => QD (.int (if b then 1 else 0)) ρ1 | _ => False) : WD B K (tCB rInt1 (tCons te tNil)) ρ QD := fun F H σ E QQ k =>
  h F H σ E _ fun v x F1 H1 ρ1 E1 e1 rv q => by
    cases rv with
    | int i => exact .inl ⟨i, rfl, k _ _ F1 H1 ρ1 E1 e1 (.int _) q⟩
    | bl b => exact .inr ⟨b, rfl, k _ _ F1 H1 ρ1 E1 e1 (.int _) q⟩
    | non => exact False.elim q
    | str _ => exact False.elim q
    | lst _ _ => exact False.elim q
    | tup _ _ => exact False.elim q
    | dct _ => exact False.elim q

/-! ### methods of lists that are owned -/
theorem we_append {j : Nat} {zs : List PyData} (hj : ρ[j]? = some (some (.own zs))) (h : WD B K te ρ fun x ρ1 => ∃ xs, ρ1[j]? = some (some (.own xs)) ∧ xs.length < lim ∧ Q (.d .none) (ρ1.set j (some (.own (xs ++ [x]))))) : WE B K (tBM K "list" rAppend (tVar j) (tCons te tNil)) ρ Q := fun F H σ E QQ k => by
  obtain ⟨a, vs, e, _, k2, _⟩ := E.own_at hj
  refine ⟨.ref a, e, .inl ⟨rfl, vs, .inl (.inl k2)⟩, h F H σ E _ fun v x F1 H1 ρ1 E1 e1 rv ⟨xs, hx, hz, q⟩ => ?_⟩
  obtain ⟨a', ws, e', m1, m2, m3⟩ := E1.own_at hx
  rw [e] at e'
  cases e'
  have E2 := E1.write hx e (m3.append (.cons rv .nil))
  exact ⟨a, ws, v, rfl, rfl, m2, by rw [m3.length]; exact lim_lt hz, k _ (.d .none) F1 _ _ E2 e1 Rp.non q⟩
theorem we_extend {j : Nat} {zs : List PyData} (hj : ρ[j]? = some (some (.own zs))) (h : WD B K te ρ fun y ρ1 => ∃ xs ys, ρ1[j]? = some (some (.own xs)) ∧ y = .list ys ∧ xs.length + ys.length ≤ lim ∧ Q (.d .none) (ρ1.set j (some (.own (xs ++ ys))))) : WE B K (tBM K "list" rExtend (tVar j) (tCons te tNil)) ρ Q := fun F H σ E QQ k => by
  obtain ⟨a, vs, e, _, k2, _⟩ := E.own_at hj
  refine ⟨.ref a, e, .inl ⟨rfl, vs, .inl (.inl k2)⟩, h F H σ E _ fun v y F1 H1 ρ1 E1 e1 rv ⟨xs, ys, hx, hy, hz, q⟩ => ?_⟩
  subst hy
  obtain ⟨a', ws, e', m1, m2, m3⟩ := E1.own_at hx
  rw [e] at e'
  cases e'
  cases rv with
  | @lst b us ys hb rb =>
  have E2 := E1.write hx e (m3.append rb)
  exact ⟨a, b, ws, us, rfl, rfl, m2, E1.fh _ _ hb, by rw [m3.length, rb.length]; exact lim_le hz, k _ (.d .none) F1 _ _ E2 e1 Rp.non q⟩
theorem we_pop {j : Nat} {xs : List PyData} {y : PyData} (hj : ρ[j]? = some (some (.own xs))) (hy : xs[xs.length - 1]? = some y) (q : Q (.d y) (ρ.set j (some (.own xs.dropLast)))) : WE B K (tBM0 K "list" rPop (tVar j)) ρ Q := fun F H σ E QQ k => by
  obtain ⟨a, vs, e, k1, k2, k3⟩ := E.own_at hj
  obtain ⟨v, hv, rv⟩ := k3.get' hy
  rw [← k3.length] at hv
  exact ⟨.ref a, e, .inl ⟨rfl, vs, .inl (.inl k2)⟩, a, vs, v, rfl, rfl, k2, hv, k v (.d y) F _ _ (E.write hj e k3.dropLast) (Ex.refl F) rv q⟩
theorem we_popAt {j : Nat} {zs : List PyData} (hj : ρ[j]? = some (some (.own zs))) (h : WD B K te ρ fun x ρ1 => ∃ xs i n y, ρ1[j]? = some (some (.own xs)) ∧ x = .int i ∧ -(2 ^ 63) ≤ i ∧ i < 2 ^ 63 ∧ ixN xs.length i = some n ∧ xs[n]? = some y ∧ Q (.d y) (ρ1.set j (some (.own (xs.eraseIdx n))))) : WE B K (tBM K "list" rPopAt (tVar j) (tCons te tNil)) ρ Q := fun F H σ E QQ k => by
  obtain ⟨a, vs, e, _, k2, _⟩ := E.own_at hj
  refine ⟨.ref a, e, .inl ⟨rfl, vs, .inl (.inl k2)⟩, h F H σ E _ fun v x F1 H1 ρ1 E1 e1 rv ⟨xs, i, n, y, hx, hi, i1, i2, hn, hy, q⟩ => ?_⟩
  subst hi
  cases rv
  obtain ⟨a', ws, e', m1, m2, m3⟩ := E1.own_at hx
  rw [e] at e'
  cases e'
  obtain ⟨w, hw, rw'⟩ := m3.get' hy
  exact ⟨a, ws, i, n, w, rfl, rfl, m2, i1, i2, (ixN_seq (by rw [m3.length]; exact hn)).1, hw, k _ (.d y) F1 _ _ (E1.write hx e (m3.erase n)) e1 rw' q⟩

/-! ### statements -/
theorem ws_seq {t1 t2 : TS} (h : WS B K t1 ρ (Z.sq fun ρ' => WS B K t2 ρ' Z)) : WS B K (tSeq t1 t2) ρ Z := fun F H σ E D ok =>
  h F H σ E _ ⟨fun F' H' σ' ρ' E' e' q => q F' H' σ' E' D (ok.up e'), ok.rt, ok.bk, ok.ct⟩
theorem ws_next (q : Z.nx ρ) : WS B K tNext ρ Z := fun F H σ E D ok => ok.nx F H σ ρ E (Ex.refl F) q
theorem ws_brk (q : Z.bk ρ) : WS B K tBreak ρ Z := fun F H σ E D ok => ok.bk F H σ ρ E (Ex.refl F) q
theorem ws_cont (q : Z.ct ρ) : WS B K tCont ρ Z := fun F H σ E D ok => ok.ct F H σ ρ E (Ex.refl F) q
theorem ws_ret (h : WE B K te ρ fun r ρ' => Z.rt r ρ') : WS B K (tRet te) ρ Z := fun F H σ E D ok =>
  h F H σ E _ fun v r F' H' ρ' E' ef rv q => ok.rt F' H' σ ρ' v r E' ef rv q
theorem ws_retN (q : Z.rt (.d .none) ρ) : WS B K tRetN ρ Z := fun F H σ E D ok => ok.rt F H σ ρ .non (.d .none) E (Ex.refl F) Rp.non q
theorem ws_never (h : False) (t : TS) : WS B K t ρ Z := h.elim
def R.toL : R → Option L
  | .d x => some (.d x)
  | .new xs => some (.d (.list xs))
  | .scr ns => some (.scr ns)
  | .raw v => some (.raw v)
  | .deep t => if t.isD = true then some (.d t.data) else none
  | .newD _ _ => none
theorem slot_of {F H : Hp} {σ : St} (E : EnvOk B K F H σ ρ) {v : V} {r : R} {l : L} (rv : ROk B K F H σ ρ v r) (hl : r.toL = some l) : ∃ F', EnvOk B K F' H σ ρ ∧ Ex F F' ∧ SlotOk K F' H v l ∧ l.pl = true := by
  cases r with
  | d x => cases hl; exact ⟨F, E, Ex.refl F, rv, rfl⟩
  | new xs =>
    cases hl
    obtain ⟨F', E', e', r'⟩ := E.asD (r := .new xs) rv rfl
    exact ⟨F', E', e', r', rfl⟩
  | scr ns => cases hl; exact ⟨F, E, Ex.refl F, rv, rfl⟩
  | raw w => cases hl; exact ⟨F, E, Ex.refl F, rv, rfl⟩
  | newD ks xs => cases hl
  | deep t =>
    unfold R.toL at hl
    by_cases c : t.isD = true
    · simp only [c, if_true] at hl
      cases hl
      obtain ⟨F', E', e', r'⟩ := E.asD (r := .deep t) (x := t.data) rv (by unfold R.toD; simp only [c, if_true])
      exact ⟨F', E', e', r', rfl⟩
    · simp only [c] at hl
      cases hl
/-- name = e: data, the script, any value -/
theorem ws_asg {i : Nat} (hp : NP B i) (h : WE B K te ρ fun r ρ' => ∃ l, r.toL = some l ∧ Z.nx (ρ'.set i (some l))) : WS B K (tAsg te (gName i)) ρ Z := fun F H σ E D ok =>
  h F H σ E _ fun v r F' H' ρ' E' ef rv ⟨l, hl, q⟩ => by
    obtain ⟨F2, E2, e2, s2, n2⟩ := slot_of E' rv hl
    exact ok.nx F2 H' _ _ (E2.setD s2 n2 hp) (ef.trans e2) q
/-- name = e, a list that the frame will change -/
def tAsgO (te : TE) (i : Nat) : TS := tAsg te (gName i)
def R.toO : R → Option L
  | .new xs => some (.own xs)
  | .deep t => some (.deep t)
  | .newD ks xs => some (.ownD ks xs)
  | _ => none
theorem ws_asgO {i : Nat} (hp : NP B i) (h : WE B K te ρ fun r ρ' => ∃ l, r.toO = some l ∧ Z.nx (ρ'.set i (some l))) : WS B K (tAsgO te i) ρ Z := fun F H σ E D ok =>
  h F H σ E _ fun v r F' H' ρ' E' ef rv ⟨l, hr, q⟩ => by
    cases r with
    | new xs => cases hr; exact ok.nx F' H' _ _ (E'.setO rv hp) ef q
    | deep t => cases hr; exact ok.nx F' H' _ _ (E'.setT rv hp) ef q
    | newD ks xs => cases hr; exact ok.nx F' H' _ _ (E'.setND rv hp) ef q
    | _ => cases hr
theorem ws_if {tc : TT} {t u : TS} (h : WT B K tc ρ fun b ρ1 => (b = true → WS B K t ρ1 Z) ∧ (b = false → WS B K u ρ1 Z)) : WS B K (tIfS tc t u) ρ Z := fun F H σ E D ok =>
  h F H σ E _ fun b F1 H1 ρ1 E1 e1 q => by
    cases b with
    | true => exact q.1 rfl F1 H1 σ E1 D (ok.up e1)
    | false => exact q.2 rfl F1 H1 σ E1 D (ok.up e1)
theorem ws_drop (h : WE B K te ρ fun _ ρ' => Z.nx ρ') : WS B K (tDrop te) ρ Z := fun F H σ E D ok =>
  h F H σ E _ fun v r F' H' ρ' E' ef rv q => ok.nx F' H' σ ρ' E' ef q
theorem ws_mono {t : TS} {Z' : Zs} (h : WS B K t ρ Z') (n : ∀ ρ, Z'.nx ρ → Z.nx ρ) (r : ∀ r ρ, Z'.rt r ρ → Z.rt r ρ) (b : ∀ ρ, Z'.bk ρ → Z.bk ρ) (c : ∀ ρ, Z'.ct ρ → Z.ct ρ) : WS B K t ρ Z := fun F H σ E D ok =>
  h F H σ E D ⟨fun F H σ ρ E e q => ok.nx F H σ ρ E e (n _ q), fun F H σ ρ v x E e rv q => ok.rt F H σ ρ v x E e rv (r _ _ q), fun F H σ ρ E e q => ok.bk F H σ ρ E e (b _ q), fun F H σ ρ E e q => ok.ct F H σ ρ E e (c _ q)⟩
/-- the ways through t meet at P -/
theorem ws_cut {t : TS} (P : En → Prop) (h : WS B K t ρ (Z.sq P)) (i : ∀ ρ', P ρ' → Z.nx ρ') : WS B K t ρ Z := ws_mono h i (fun _ _ q => q) (fun _ q => q) fun _ q => q
/-- name += e -/
theorem ws_aug {i : Nat} {g : Int → Int → Int} (hp : NP B i) {x : Int} (hi : ρ[i]? = some (some (.d (.int x)))) (h : WD B K te ρ fun y ρ1 => ∃ j, y = .int j ∧ Z.nx (ρ1.set i (some (.d (.int (g x j)))))) : WS B K (tAug i te (ipI g)) ρ Z := fun F H σ E D ok => by
  obtain ⟨v, e, s⟩ := E.sl i _ hi
  cases (show Rp K F v (.int x) from s)
  exact ⟨_, e, h F H σ E _ fun u y F1 H1 ρ1 E1 e1 ru ⟨j, hy, q⟩ => by
    subst hy
    cases ru
    exact ⟨x, j, rfl, rfl, ok.nx F1 H1 _ _ (E1.setD (l := .d (.int (g x j))) (Rp.int _) rfl hp) e1 q⟩⟩
/-- o[i] = e of an own list -/
theorem ws_setItem {ti : TE} {j : Nat} (h : WD B K te ρ fun x ρ1 => (∃ zs, ρ1[j]? = some (some (.own zs))) ∧ WD B K ti ρ1 fun y ρ2 => ∃ xs i n, ρ2[j]? = some (some (.own xs)) ∧ y = .int i ∧ ixN xs.length i = some n ∧ Z.nx (ρ2.set j (some (.own (xs.set n x))))) :
    WS B K (tAsg te (gSub (tVar j) ti rSetL)) ρ Z := fun F H σ E D ok =>
  h F H σ E _ fun v x F1 H1 ρ1 E1 e1 rv ⟨⟨zs, hz⟩, q⟩ => by
    obtain ⟨a, vs, e, _⟩ := E1.own_at hz
    refine ⟨.ref a, e, q F1 H1 σ E1 _ fun u y F2 H2 ρ2 E2 e2 ru ⟨xs, i, n, hx, hy, hn, q2⟩ => ?_⟩
    subst hy
    cases ru
    obtain ⟨a', ws, e', m1, m2, m3⟩ := E2.own_at hx
    rw [e] at e'
    cases e'
    exact ⟨a, ws, i, n, rfl, rfl, m2, by rw [m3.length]; exact hn, ok.nx F2 _ _ _ (E2.write hx e (m3.set n (Rp.mono e2 rv))) (e1.trans e2) q2⟩

/-! ### targets -/
def WG (B : Bs) (K : Fr) (g : TG) (x : PyData) (ρ : En) (Q : En → Prop) : Prop := ∀ F H σ v, EnvOk B K F H σ ρ → Rp K F v x → ∀ QQ : L2.St → Hp → Prop, (∀ F' H' σ' ρ', EnvOk B K F' H' σ' ρ' → Ex F F' → Q ρ' → QQ σ' H') → g v σ H QQ
def WGs (B : Bs) (K : Fr) (g : TGs) (xs : List PyData) (ρ : En) (Q : En → Prop) : Prop := ∀ F H σ vs, EnvOk B K F H σ ρ → RpA K F vs xs → ∀ QQ : L2.St → Hp → Prop, (∀ F' H' σ' ρ', EnvOk B K F' H' σ' ρ' → Ex F F' → Q ρ' → QQ σ' H') → g vs σ H QQ
theorem wg_name {i : Nat} {x : PyData} {q : En → Prop} (hp : NP B i) (h : q (ρ.set i (some (.d x)))) : WG B K (gName i) x ρ q := fun F H σ v E rv QQ k =>
  k F H _ _ (E.setD (l := .d x) rv rfl hp) (Ex.refl F) h
theorem wgs_nil {q : En → Prop} (h : q ρ) : WGs B K gNil [] ρ q := fun F H σ vs E rv QQ k => by
  cases rv
  exact ⟨rfl, k F H σ ρ E (Ex.refl F) h⟩
theorem wgs_cons {g : TG} {gs : TGs} {x : PyData} {xs : List PyData} {q : En → Prop} (h : WG B K g x ρ fun ρ1 => WGs B K gs xs ρ1 q) : WGs B K (gCons g gs) (x :: xs) ρ q := fun F H σ vs E rv QQ k => by
  cases rv with
  | cons r1 r2 => exact ⟨_, _, rfl, h F H σ _ E r1 _ fun F' H' σ' ρ' E' e' q' => q' F' H' σ' _ E' (r2.mono e') QQ fun F2 H2 σ2 ρ2 E2 e2 q2 => k F2 H2 σ2 ρ2 E2 (e'.trans e2) q2⟩
theorem wg_tup {n : Nat} {gs : TGs} {xs : List PyData} {q : En → Prop} (hn : xs.length = n) (h : WGs B K gs xs ρ q) : WG B K (gTup K n gs) (.tuple xs) ρ q := fun F H σ v E rv QQ k => by
  cases rv with
  | @tup a vs xs ha ra => exact ⟨a, vs, rfl, E.fh.stt ha, by rw [ra.length]; exact hn, h F H σ vs E ra QQ k⟩
theorem ws_asgG {g : TG} (h : WD B K te ρ fun x ρ' => WG B K g x ρ' Z.nx) : WS B K (tAsg te g) ρ Z := fun F H σ E D ok =>
  h F H σ E _ fun v x F' H' ρ' E' ef rv q => q F' H' σ v E' rv _ fun F2 H2 σ2 ρ2 E2 e2 q2 => ok.nx F2 H2 σ2 ρ2 E2 (ef.trans e2) q2
/-- a, b = x, y of plain local names -/
theorem ws_par {i j : Nat} (hi : NP B i) (hj : NP B j) (h : WDs B K tl ρ fun xs ρ' => ∃ x y, xs = [x, y] ∧ Z.nx ((ρ'.set i (some (.d x))).set j (some (.d y)))) : WS B K (tPar i j tl) ρ Z := fun F H σ E D ok =>
  h F H σ E _ fun vs xs F' H' ρ' E' ef rv ⟨x, y, hx, q⟩ => by
    subst hx
    cases rv with
    | cons r1 r2 =>
      cases r2 with
      | cons r2 r3 =>
        cases r3
        exact ⟨_, _, rfl, ok.nx F' H' _ _ ((E'.setD (l := .d x) r1 rfl hi).setD (l := .d y) r2 rfl hj) ef q⟩

/-! ### loops -/
theorem take_snoc {α : Type} {as : List α} {i : Nat} {a : α} (h : as[i]? = some a) : as.take (i + 1) = as.take i ++ [a] := by
  rw [List.take_add_one, h]
  rfl
theorem split_at {α : Type} {as : List α} {i : Nat} {a : α} (h : as[i]? = some a) : as = as.take i ++ a :: as.drop (i + 1) := by
  obtain ⟨hi, e⟩ := List.getElem?_eq_some_iff.mp h
  rw [← e, ← List.drop_eq_getElem_cons hi, List.take_append_drop]
/-- what a loop over the items as wants -/
def Loop {α : Type} (B : Bs) (K : Fr) (g : TG) (tb : TS) (f : α → PyData) (as : List α) (ρ : En) (Z : Zs) : Prop :=
  ∃ I : List α → En → Prop, I [] ρ ∧ (∀ pre a post ρ2, as = pre ++ a :: post → I pre ρ2 → WG B K g (f a) ρ2 fun ρ3 => WS B K tb ρ3 (Z.lp (I (pre ++ [a])))) ∧ ∀ ρ2, I as ρ2 → Z.nx ρ2
theorem ws_forL {α : Type} {g : TG} {tb : TS} (f : α → PyData) (h : WD B K te ρ fun x ρ1 => ∃ as : List α, x = .list (as.map f) ∧ Loop B K g tb f as ρ1 Z) : WS B K (tFor (iList K te) g tb) ρ Z := fun F H σ E D ok =>
  h F H σ E _ fun v x F1 H1 ρ1 E1 e1 rv ⟨as, hx, I, i0, is, id⟩ => by
    subst hx
    cases rv with
    | @lst a vs xs ha ra =>
    have hl : vs.length = as.length := by rw [ra.length, List.length_map]
    refine ⟨a, rfl, ⟨vs, .inl (.inl (E1.fh _ _ ha))⟩, for_list (xs := vs) (fun i σ H => ∃ F ρ, EnvOk B K F H σ ρ ∧ Ex F1 F ∧ I (as.take i) ρ) ⟨F1, ρ1, E1, Ex.refl F1, i0⟩ (fun i σ H _ ⟨F2, ρ2, E2, e2, _⟩ => .inl (.inl (E2.fh _ _ (e2 _ _ ha)))) (fun i w σ2 H2 hw ⟨F2, ρ2, E2, e2, q⟩ => ?_) fun σ2 H2 ⟨F2, ρ2, E2, e2, q⟩ => ok.nx F2 H2 σ2 ρ2 E2 (e1.trans e2) (id ρ2 (by rw [hl, List.take_length] at q; exact q))⟩
    obtain ⟨d, hd, rd⟩ := ra.get hw
    rw [List.getElem?_map] at hd
    cases ea : as[i]? with
    | none => rw [ea] at hd; cases hd
    | some b =>
    rw [ea] at hd
    cases hd
    exact is (as.take i) b (as.drop (i + 1)) ρ2 (split_at ea) q F2 H2 σ2 w E2 (Rp.mono e2 rd) _ fun F3 H3 σ3 ρ3 E3 e3 q3 => q3 F3 H3 σ3 E3 _
      ⟨fun F4 H4 σ4 ρ4 E4 e4 q4 => ⟨F4, ρ4, E4, e2.trans (e3.trans e4), by rw [take_snoc ea]; exact q4⟩, fun F4 H4 σ4 ρ4 v4 r4 E4 e4 rv4 q4 => ok.rt F4 H4 σ4 ρ4 v4 r4 E4 (e1.trans (e2.trans (e3.trans e4))) rv4 q4,
       fun F4 H4 σ4 ρ4 E4 e4 q4 => ok.nx F4 H4 σ4 ρ4 E4 (e1.trans (e2.trans (e3.trans e4))) q4, fun F4 H4 σ4 ρ4 E4 e4 q4 => ⟨F4, ρ4, E4, e2.trans (e3.trans e4), by rw [take_snoc ea]; exact q4⟩⟩
end
end SV

set_option maxHeartbeats 1000000
namespace SV
open PySem PySem.Spec L2
open Evl (Ex)
section
variable {B : Bs} {K : Fr} {ρ : En} {ta tb te : TE} {tt : TT} {tr tl : TA} {Q : R → En → Prop} {QD : PyData → En → Prop} {QT : Bool → En → Prop} {QA : List Ar → En → Prop} {Z : Zs}

/-! ### loops of any kind -/
theorem loop_gen {α : Type} {J : It} {g : TG} {tS : TS} {f : α → PyData} {as : List α} {F0 F1 H1 : Hp} {σ : L2.St} {ρ1 : En} {D : Ends} (C : En → Prop) (E1 : EnvOk B K F1 H1 σ ρ1) (e1 : Ex F0 F1) (ok : ZOk B K F0 Z D)
    (go : ∀ (i : Nat) (a : α) F H σ ρ, as[i]? = some a → EnvOk B K F H σ ρ → Ex F1 F → C ρ → J.go i H)
    (stop : ∀ (i : Nat) F H σ ρ, as.length ≤ i → EnvOk B K F H σ ρ → Ex F1 F → C ρ → J.stop i H)
    (yld : ∀ (i : Nat) (a : α) F H σ ρ x H', as[i]? = some a → EnvOk B K F H σ ρ → Ex F1 F → C ρ → J.yld i H x H' → ∃ F', EnvOk B K F' H' σ ρ ∧ Ex F F' ∧ Rp K F' x (f a))
    (I : List α → En → Prop) (ic : ∀ pre ρ, I pre ρ → C ρ) (i0 : I [] ρ1) (is : ∀ pre a post ρ2, as = pre ++ a :: post → I pre ρ2 → WG B K g (f a) ρ2 fun ρ3 => WS B K tS ρ3 (Z.lp (I (pre ++ [a])))) (id : ∀ ρ2, I as ρ2 → Z.nx ρ2) :
    ∃ W : Nat → Nat → L2.St → Hp → Prop, (∃ m, W 0 m σ H1) ∧ ∀ i m σ H, W i m σ H →
      (J.stop i H ∧ D.nx σ H) ∨ (J.go i H ∧ ∃ N : L2.St → Hp → Prop, (∀ σ' H', N σ' H' → ∃ m', m' < m ∧ W (i + 1) m' σ' H') ∧ ∀ x H', J.yld i H x H' → g x σ H' fun σ2 H2 => tS { D with nx := N, ct := N, bk := D.nx } σ2 H2) := by
  refine ⟨fun i m σ H => m = as.length - i ∧ i ≤ as.length ∧ ∃ F ρ, EnvOk B K F H σ ρ ∧ Ex F1 F ∧ I (as.take i) ρ, ⟨as.length, (Nat.sub_zero _).symm, Nat.zero_le _, F1, ρ1, E1, Ex.refl F1, i0⟩, ?_⟩
  rintro i m σ2 H2 ⟨rfl, hi, F2, ρ2, E2, e2, q⟩
  by_cases hlt : i < as.length
  · have ea : as[i]? = some as[i] := List.getElem?_eq_getElem hlt
    refine .inr ⟨go i _ F2 H2 σ2 ρ2 ea E2 e2 (ic _ _ q), fun σ' H' => ∃ F ρ, EnvOk B K F H' σ' ρ ∧ Ex F1 F ∧ I (as.take (i + 1)) ρ, fun σ' H' p' => ⟨as.length - (i + 1), by omega, rfl, hlt, p'⟩, fun x H' y => ?_⟩
    obtain ⟨F', E', e', rx⟩ := yld i _ F2 H2 σ2 ρ2 x H' ea E2 e2 (ic _ _ q) y
    exact is (as.take i) as[i] (as.drop (i + 1)) ρ2 (split_at ea) q F' H' σ2 x E' rx _ fun F3 H3 σ3 ρ3 E3 e3 q3 => q3 F3 H3 σ3 E3 _
      ⟨fun F4 H4 σ4 ρ4 E4 e4 q4 => ⟨F4, ρ4, E4, e2.trans (e'.trans (e3.trans e4)), by rw [take_snoc ea]; exact q4⟩, fun F4 H4 σ4 ρ4 v4 r4 E4 e4 rv4 q4 => ok.rt F4 H4 σ4 ρ4 v4 r4 E4 (e1.trans (e2.trans (e'.trans (e3.trans e4)))) rv4 q4,
       fun F4 H4 σ4 ρ4 E4 e4 q4 => ok.nx F4 H4 σ4 ρ4 E4 (e1.trans (e2.trans (e'.trans (e3.trans e4)))) q4, fun F4 H4 σ4 ρ4 E4 e4 q4 => ⟨F4, ρ4, E4, e2.trans (e'.trans (e3.trans e4)), by rw [take_snoc ea]; exact q4⟩⟩
  · have e : i = as.length := by omega
    subst e
    exact .inl ⟨stop _ F2 H2 σ2 ρ2 (Nat.le_refl _) E2 e2 (ic _ _ q), ok.nx F2 H2 σ2 ρ2 E2 (e1.trans e2) (id ρ2 (by rw [List.take_length] at q; exact q))⟩
theorem at_map {α : Type} {K : Fr} {F : Hp} {f : α → PyData} {as : List α} {vs : List V} {i : Nat} {a : α} {v : V} (ra : RpA K F vs (as.map f)) (ea : as[i]? = some a) (hv : vs[i]? = some v) : Rp K F v (f a) := by
  obtain ⟨d, hd, rd⟩ := ra.get hv
  rw [List.getElem?_map, ea] at hd
  cases hd
  exact rd
theorem at_map' {α : Type} {K : Fr} {F : Hp} {f : α → PyData} {as : List α} {vs : List V} {i : Nat} {a : α} (ra : RpA K F vs (as.map f)) (ea : as[i]? = some a) : ∃ v, vs[i]? = some v ∧ Rp K F v (f a) := by
  have hd : (as.map f)[i]? = some (f a) := by rw [List.getElem?_map, ea]; rfl
  exact ra.get' hd
/-- over a tuple -/
theorem ws_forT {α : Type} {g : TG} {tS : TS} (f : α → PyData) (h : WD B K te ρ fun x ρ1 => ∃ as : List α, x = .tuple (as.map f) ∧ Loop B K g tS f as ρ1 Z) : WS B K (tFor (iTup K te) g tS) ρ Z := fun F H σ E D ok =>
  h F H σ E _ fun v x F1 H1 ρ1 E1 e1 rv ⟨as, hx, I, i0, is, id⟩ => by
    subst hx
    cases rv with
    | @tup a vs xs ha ra =>
    have hl : vs.length = as.length := by rw [ra.length, List.length_map]
    refine ⟨a, rfl, ⟨vs, E1.fh.stt ha⟩, loop_gen (f := f) (as := as) (fun _ => True) E1 e1 ok (fun i b F2 H2 σ2 ρ2 ea E2 e2 _ => ?_) (fun i F2 H2 σ2 ρ2 hi E2 e2 _ => ⟨vs, E2.fh.stt (e2.stt ha), by omega⟩) (fun i b F2 H2 σ2 ρ2 y H' ea E2 e2 _ hy => ?_) I (fun _ _ _ => trivial) i0 is id⟩
    · obtain ⟨w, hw, _⟩ := at_map' ra ea
      exact ⟨vs, w, E2.fh.stt (e2.stt ha), hw⟩
    · obtain ⟨rfl, hy⟩ := hy
      exact ⟨F2, E2, Ex.refl F2, Rp.mono e2 (at_map ra ea (hy vs (E2.fh.stt (e2.stt ha))))⟩
/-- over a list that the frame owns and leaves as it is -/
theorem ws_forO {α : Type} {g : TG} {tS : TS} (f : α → PyData) {j : Nat} {as : List α} (hj : ρ[j]? = some (some (.own (as.map f)))) (I : List α → En → Prop) (ic : ∀ pre ρ', I pre ρ' → ρ'[j]? = some (some (.own (as.map f))) ∧ True) (i0 : I [] ρ)
    (is : ∀ pre a post ρ2, as = pre ++ a :: post → I pre ρ2 → WG B K g (f a) ρ2 fun ρ3 => WS B K tS ρ3 (Z.lp (I (pre ++ [a])))) (id : ∀ ρ2, I as ρ2 → Z.nx ρ2) (keep : ∀ F H σ ρ', EnvOk B K F H σ ρ' → ρ'[j]? = some (some (.own (as.map f))) → ∀ a, B.pin = some (j, a) → σ[j]? = some (some (.ref a))) (np : ∃ a, B.pin = some (j, a)) : WS B K (tFor (iList K (tVar j)) g tS) ρ Z := fun F H σ E D ok => by
  obtain ⟨a, ha⟩ := np
  have sj : ∀ {F H σ ρ}, EnvOk B K F H σ ρ → σ[j]? = some (some (.ref a)) := fun E => (E.pin j a ha).1
  obtain ⟨a', vs, e, _, k2, k3⟩ := E.own_at hj
  refine ⟨.ref a', e, a', rfl, ⟨vs, .inl (.inl k2)⟩, ?_⟩
  rw [sj E] at e
  cases e
  refine loop_gen (f := f) (as := as) (fun ρ' => ρ'[j]? = some (some (.own (as.map f)))) E (Ex.refl F) ok (fun i b F2 H2 σ2 ρ2 ea E2 e2 c => ?_) (fun i F2 H2 σ2 ρ2 hi E2 e2 c => ?_) (fun i b F2 H2 σ2 ρ2 y H' ea E2 e2 c hy => ?_) I (fun pre ρ' q => (ic pre ρ' q).1) i0 is id
  all_goals obtain ⟨b', ws, e', _, m2, m3⟩ := E2.own_at c
  all_goals rw [sj E2] at e'
  all_goals cases e'
  · obtain ⟨w, hw, _⟩ := at_map' m3 ea
    exact ⟨ws, w, .inl (.inl m2), hw⟩
  · exact ⟨ws, .inl (.inl m2), by rw [m3.length, List.length_map]; exact hi⟩
  · obtain ⟨rfl, hy⟩ := hy
    exact ⟨F2, E2, Ex.refl F2, at_map m3 ea (hy ws (.inl (.inl m2)))⟩
/-- sign by sign -/
def strD (c : Nat) : PyData := .str ⟨#[c]⟩
theorem ws_forS {g : TG} {tS : TS} (h : WD B K te ρ fun x ρ1 => ∃ z : Str, x = .str z ∧ Loop B K g tS strD z.cps.toList ρ1 Z) : WS B K (tFor (iStr te) g tS) ρ Z := fun F H σ E D ok =>
  h F H σ E _ fun v x F1 H1 ρ1 E1 e1 rv ⟨z, hx, I, i0, is, id⟩ => by
    subst hx
    cases rv
    refine ⟨z, rfl, loop_gen (f := strD) (as := z.cps.toList) (fun _ => True) E1 e1 ok (fun i b F2 H2 σ2 ρ2 ea E2 e2 _ => ?_) (fun i F2 H2 σ2 ρ2 hi E2 e2 _ => ?_) (fun i b F2 H2 σ2 ρ2 y H' ea E2 e2 _ hy => ?_) I (fun _ _ _ => trivial) i0 is id⟩
    · show i < z.cps.size
      rw [← Array.length_toList]
      exact (List.getElem?_eq_some_iff.mp ea).1
    · show z.cps.size ≤ i
      rw [← Array.length_toList]
      exact hi
    · obtain ⟨rfl, c, hc, rfl⟩ := hy
      rw [Array.getElem?_toList, hc] at ea
      cases ea
      exact ⟨F2, E2, Ex.refl F2, Rp.str _⟩
/-- over the script -/
theorem ws_forScr {g : TG} {tS : TS} {j : Nat} {ns : List Int} (hj : ρ[j]? = some (some (.scr ns))) (h : Loop B K g tS PyData.int ns ρ Z) : WS B K (tFor (iList K (tVar j)) g tS) ρ Z := fun F H σ E D ok => by
  obtain ⟨I, i0, is, id⟩ := h
  obtain ⟨v, e, a, hv, hs⟩ := E.sl j _ hj
  subst hv
  refine ⟨.ref a, e, a, rfl, ⟨_, E.fh.sl hs⟩, loop_gen (f := PyData.int) (as := ns) (fun _ => True) E (Ex.refl F) ok (fun i b F2 H2 σ2 ρ2 ea E2 e2 _ => ?_) (fun i F2 H2 σ2 ρ2 hi E2 e2 _ => ⟨_, E2.fh.sl (e2.sl hs), by rw [List.length_map]; exact hi⟩) (fun i b F2 H2 σ2 ρ2 y H' ea E2 e2 _ hy => ?_) I (fun _ _ _ => trivial) i0 is id⟩
  · exact ⟨_, .int b, E2.fh.sl (e2.sl hs), by rw [List.getElem?_map, ea]; rfl⟩
  · obtain ⟨rfl, hy⟩ := hy
    have q := hy _ (E2.fh.sl (e2.sl hs))
    rw [List.getElem?_map, ea] at q
    cases q
    exact ⟨F2, E2, Ex.refl F2, Rp.int _⟩
/-- over range(n), range(a, b): the turns 0, 1, .. -/
def ixs (lo : Int) (n : Nat) : List Int := (List.range n).map fun (k : Nat) => lo + (k : Int)
theorem ixs_at {lo : Int} {n i : Nat} : (ixs lo n)[i]? = if i < n then some (lo + (i : Int)) else none := by
  unfold ixs
  rw [List.getElem?_map]
  by_cases h : i < n
  · rw [List.getElem?_range h, if_pos h]; rfl
  · rw [List.getElem?_eq_none (by rw [List.length_range]; omega), if_neg h]; rfl
theorem ixs_len {lo : Int} {n : Nat} : (ixs lo n).length = n := by unfold ixs; rw [List.length_map, List.length_range]
theorem for_itr {g : TG} {tS : TS} {lo : Int} {n : Nat} {F0 F1 H1 : Hp} {σ : L2.St} {ρ1 : En} {D : Ends} (E1 : EnvOk B K F1 H1 σ ρ1) (e1 : Ex F0 F1) (ok : ZOk B K F0 Z D) (h : Loop B K g tS PyData.int (ixs lo n) ρ1 Z) :
    ∃ W : Nat → Nat → L2.St → Hp → Prop, (∃ m, W 0 m σ H1) ∧ ∀ i m σ H, W i m σ H →
      ((Itr lo n).stop i H ∧ D.nx σ H) ∨ ((Itr lo n).go i H ∧ ∃ N : L2.St → Hp → Prop, (∀ σ' H', N σ' H' → ∃ m', m' < m ∧ W (i + 1) m' σ' H') ∧ ∀ x H', (Itr lo n).yld i H x H' → g x σ H' fun σ2 H2 => tS { D with nx := N, ct := N, bk := D.nx } σ2 H2) := by
  obtain ⟨I, i0, is, id⟩ := h
  refine loop_gen (f := PyData.int) (as := ixs lo n) (fun _ => True) E1 e1 ok (fun i b F2 H2 σ2 ρ2 ea E2 e2 _ => ?_) (fun i F2 H2 σ2 ρ2 hi E2 e2 _ => ?_) (fun i b F2 H2 σ2 ρ2 y H' ea E2 e2 _ hy => ?_) I (fun _ _ _ => trivial) i0 is id
  · have := (List.getElem?_eq_some_iff.mp ea).1
    rw [ixs_len] at this
    exact this
  · rw [ixs_len] at hi
    exact hi
  · obtain ⟨rfl, rfl⟩ := hy
    rw [ixs_at] at ea
    split at ea
    · cases ea
      exact ⟨F2, E2, Ex.refl F2, Rp.int _⟩
    · cases ea
theorem ws_for1 {g : TG} {tS : TS} (h : WD B K te ρ fun x ρ1 => ∃ n : Int, x = .int n ∧ -1000000 ≤ n ∧ n ≤ 1000000 ∧ Loop B K g tS PyData.int (ixs 0 n.toNat) ρ1 Z) : WS B K (tFor (iRng1 (tCons te tNil)) g tS) ρ Z := fun F H σ E D ok =>
  h F H σ E _ fun v x F1 H1 ρ1 E1 e1 rv ⟨n, hx, n0, n1, q⟩ => by
    subst hx
    cases rv
    exact ⟨n, rfl, by omega, by omega, for_itr E1 e1 ok q⟩
theorem ws_for2 {g : TG} {tS : TS} (h : WD B K ta ρ fun x ρ1 => ∃ m : Int, x = .int m ∧ WD B K tb ρ1 fun y ρ2 => ∃ n : Int, y = .int n ∧ (-1000000 ≤ m ∧ m ≤ 1000000 ∧ -1000000 ≤ n ∧ n ≤ 1000000) ∧ Loop B K g tS PyData.int (ixs m (n - m).toNat) ρ2 Z) : WS B K (tFor (iRng2 (tCons ta (tCons tb tNil))) g tS) ρ Z := fun F H σ E D ok =>
  h F H σ E _ fun v x F1 H1 ρ1 E1 e1 rv ⟨m, hx, q⟩ => q F1 H1 σ E1 _ fun u y F2 H2 ρ2 E2 e2 ru ⟨n, hy, ⟨n0, n1, n2, n3⟩, q⟩ => by
    subst hx hy
    cases rv; cases ru
    exact ⟨m, n, rfl, ⟨by omega, by omega, by omega, by omega⟩, for_itr E2 (e1.trans e2) ok q⟩
/-! ### while -/
theorem ws_while {c : TT} {tS : TS} (W : Nat → En → Prop) (h0 : ∃ m, W m ρ) (hs : ∀ m ρ1, W m ρ1 → WT B K c ρ1 fun b ρ2 => (b = true → WS B K tS ρ2 (Z.lp fun ρ' => ∃ m', m' < m ∧ W m' ρ')) ∧ (b = false → Z.nx ρ2)) :
    WS B K (tWhile c tS) ρ Z := fun F H σ E D ok => by
  obtain ⟨m0, w0⟩ := h0
  refine ⟨fun m σ H => ∃ F' ρ', EnvOk B K F' H σ ρ' ∧ Ex F F' ∧ W m ρ', ⟨m0, F, ρ, E, Ex.refl F, w0⟩, ?_⟩
  rintro m σ1 H1 ⟨F1, ρ1, E1, e1, w1⟩
  refine hs m ρ1 w1 F1 H1 σ1 E1 _ fun b F2 H2 ρ2 E2 e2 q => ?_
  have e12 := e1.trans e2
  cases b with
  | false => exact ok.nx F2 H2 σ1 ρ2 E2 e12 (q.2 rfl)
  | true =>
    refine ⟨fun σ' H' => ∃ m', m' < m ∧ ∃ F' ρ', EnvOk B K F' H' σ' ρ' ∧ Ex F F' ∧ W m' ρ', fun _ _ z => z, ?_⟩
    exact q.1 rfl F2 H2 σ1 E2 _ ⟨fun F3 H3 σ3 ρ3 E3 e3 ⟨m', l, w⟩ => ⟨m', l, F3, ρ3, E3, e12.trans e3, w⟩, fun F3 H3 σ3 ρ3 v r E3 e3 rv q3 => ok.rt F3 H3 σ3 ρ3 v r E3 (e12.trans e3) rv q3,
      fun F3 H3 σ3 ρ3 E3 e3 q3 => ok.nx F3 H3 σ3 ρ3 E3 (e12.trans e3) q3, fun F3 H3 σ3 ρ3 E3 e3 ⟨m', l, w⟩ => ⟨m', l, F3, ρ3, E3, e12.trans e3, w⟩⟩

/-! ### comprehensions -/
inductive Sel {α : Type} (P : α → Option PyData → Prop) : List α → List PyData → Prop
  | nil : Sel P [] []
  | yes {a : α} {as : List α} {y : PyData} {ys : List PyData} : Sel P as ys → P a (some y) → Sel P (as ++ [a]) (ys ++ [y])
  | no {a : α} {as : List α} {ys : List PyData} : Sel P as ys → P a none → Sel P (as ++ [a]) ys
theorem Sel.len {α : Type} {P : α → Option PyData → Prop} {as : List α} {ys : List PyData} (s : Sel P as ys) : ys.length ≤ as.length := by
  induction s with
  | nil => exact Nat.le_refl _
  | yes _ _ ih => rw [List.length_append, List.length_append]; exact Nat.add_le_add_right ih 1
  | no _ _ ih => rw [List.length_append]; exact Nat.le_add_right_of_le ih
/-- all items, each by a function -/
theorem Sel.map {α : Type} {f : α → PyData} {as : List α} {ys : List PyData} (s : Sel (fun a o => o = some (f a)) as ys) : ys = as.map f := by
  induction s with
  | nil => rfl
  | yes _ h ih => cases h; rw [ih, List.map_append]; rfl
  | no _ h => cases h
/-- the items that pass a test, each by a function -/
theorem Sel.filter {α : Type} {f : α → PyData} {p : α → Bool} {as : List α} {ys : List PyData} (s : Sel (fun a o => o = if p a = true then some (f a) else none) as ys) : ys = (as.filter p).map f := by
  induction s with
  | nil => rfl
  | @yes a as y ys _ h ih =>
    rw [ih, List.filter_append, List.map_append]
    by_cases c : p a = true
    · rw [if_pos c] at h
      cases h
      rw [List.filter_cons_of_pos c]
      rfl
    · rw [if_neg c] at h
      cases h
  | @no a as ys _ h ih =>
    rw [ih, List.filter_append, List.map_append]
    by_cases c : p a = true
    · rw [if_pos c] at h
      cases h
    · rw [List.filter_cons_of_neg c]
      simp
/-! the targets of a comprehension: names, a tuple of names -/
inductive GVs : TGs → List Nat → Prop
  | nil : GVs gNil []
  | cons {gs : TGs} {vs : List Nat} (i : Nat) : GVs gs vs → GVs (gCons (gName i) gs) (i :: vs)
inductive GV : TG → List Nat → Prop
  | name (i : Nat) : GV (gName i) [i]
  | tup {K : Fr} {n : Nat} {gs : TGs} {vs : List Nat} : GVs gs vs → GV (gTup K n gs) vs
theorem GVs.stay {gs : TGs} {vs : List Nat} (gv : GVs gs vs) : ∀ {xs : List V} {σ : L2.St} {H : Hp} {QQ QQ' : L2.St → Hp → Prop}, gs xs σ H QQ → (∀ (σ' : L2.St) H', σ'.length = σ.length → (∀ k, k ∉ vs → σ'[k]? = σ[k]?) → QQ σ' H' → QQ' σ' H') → gs xs σ H QQ' := by
  induction gv with
  | nil => intro xs σ H QQ QQ' h c; exact ⟨h.1, c σ H rfl (fun _ _ => rfl) h.2⟩
  | @cons gs vs i _ ih =>
    intro xs σ H QQ QQ' h c
    obtain ⟨v, r, e, h⟩ := h
    refine ⟨v, r, e, ?_⟩
    refine ih (show gs r (σ.set i (some v)) H QQ from h) fun σ' H' hl hk q => c σ' H' (by rw [hl, List.length_set]) (fun k hn => ?_) q
    rw [hk k fun z => hn (List.mem_cons_of_mem _ z), List.getElem?_set_ne fun z => hn (by rw [z]; exact List.mem_cons_self)]
theorem GV.stay {g : TG} {vs : List Nat} (gv : GV g vs) {x : V} {σ : L2.St} {H : Hp} {QQ QQ' : L2.St → Hp → Prop} (h : g x σ H QQ) (c : ∀ (σ' : L2.St) H', σ'.length = σ.length → (∀ k, k ∉ vs → σ'[k]? = σ[k]?) → QQ σ' H' → QQ' σ' H') : g x σ H QQ' := by
  cases gv with
  | name i => exact c _ H (List.length_set ..) (fun k hn => List.getElem?_set_ne fun z => hn (by rw [z]; exact List.mem_cons_self)) h
  | tup gs =>
    obtain ⟨a, xs, e, hs, hn, q⟩ := h
    exact ⟨a, xs, e, hs, hn, gs.stay q c⟩
theorem wipe_in {σ : L2.St} {k : Nat} : ∀ {vs : List Nat}, k ∈ vs → k < σ.length → (wipe σ vs)[k]? = some none
  | v :: vs, h, hk => by
    show ((wipe σ vs).set v none)[k]? = some none
    by_cases e : v = k
    · subst e
      rw [List.getElem?_set_self (by rw [wipe_length]; exact hk)]
    · rw [List.getElem?_set_ne e]
      exact wipe_in ((List.mem_cons.mp h).resolve_left fun z => e z.symm) hk
theorem wipe_eq {σ τ : L2.St} {vs : List Nat} (hl : τ.length = σ.length) (h : ∀ k, k ∉ vs → τ[k]? = (wipe σ vs)[k]?) : wipe τ vs = wipe σ vs := by
  refine List.ext_getElem? fun k => ?_
  by_cases hk : k ∈ vs
  · by_cases hl2 : k < σ.length
    · rw [wipe_in hk hl2, wipe_in hk (by rw [hl]; exact hl2)]
    · rw [List.getElem?_eq_none (by rw [wipe_length]; omega), List.getElem?_eq_none (by rw [wipe_length]; omega)]
  · rw [wipe_out hk, h k hk]
def hideO : Option L → Option L
  | some (.own _) => none
  | some (.deep _) => none
  | some (.ownD _ _) => none
  | o => o
def hide (ρ : En) : En := ρ.map hideO
def wipeE (ρ : En) : List Nat → En
  | [] => ρ
  | v :: vs => (wipeE ρ vs).set v none
theorem hide_at {ρ : En} {i : Nat} {l : L} (h : (hide ρ)[i]? = some (some l)) : ρ[i]? = some (some l) ∧ l.pl = true := by
  unfold hide at h
  rw [List.getElem?_map] at h
  cases e : ρ[i]? with
  | none => rw [e] at h; cases h
  | some o =>
    rw [e] at h
    have h' : hideO o = some l := Option.some.inj h
    cases o with
    | none => cases h'
    | some l' =>
      cases l' with
      | own xs => cases h'
      | deep t => cases h'
      | ownD ks xs => cases h'
      | d x => cases h'; exact ⟨rfl, rfl⟩
      | scr x => cases h'; exact ⟨rfl, rfl⟩
      | raw x => cases h'; exact ⟨rfl, rfl⟩
theorem LFp.no {v : V} {l : L} {a : Addr} (h : l.pl = true) : ¬ LFp v l a := by
  cases l <;> first | (intro k; exact (show False from k)) | cases h
theorem hide_no {σ : L2.St} {ρ : En} {i : Nat} {a : Addr} : ¬ SFp σ (hide ρ) i a := fun ⟨_, _, e, _, h⟩ => LFp.no (hide_at e).2 h
theorem hide_len (ρ : En) : (hide ρ).length = ρ.length := List.length_map ..
theorem wipeE_len (ρ : En) : ∀ vs : List Nat, (wipeE ρ vs).length = ρ.length
  | [] => rfl
  | v :: vs => by unfold wipeE; rw [List.length_set, wipeE_len ρ vs]
/-- within a comprehension: a base of its own, the own lists out of sight -/
theorem EnvOk.inner {F H : Hp} {σ : L2.St} (E : EnvOk B K F H σ ρ) (vs : List Nat) : EnvOk ⟨F, H, none⟩ K F H (wipe σ vs) (wipeE (hide ρ) vs) := by
  have base : EnvOk ⟨F, H, none⟩ K F H σ (hide ρ) := by
    refine ⟨⟨Ex.refl F, E.fh, fun a o e _ => e, fun a h => h, fun a h _ => h⟩, E.len.trans (hide_len ρ).symm, fun i l e => E.sl i l (hide_at e).1, fun i j a e1 _ => absurd e1 hide_no, fun i a e1 => absurd e1 hide_no, fun i a e => nomatch e⟩
  induction vs with
  | nil => exact base
  | cons v vs ih => exact ih.forget fun a e => nomatch e
/-- an object that is neither frozen nor a slot's is changed -/
theorem EnvOk.poke {F H : Hp} {σ : L2.St} (E : EnvOk B K F H σ ρ) {p : Addr} {o : HO} (hF : F p = none) (h0 : B.H0 p = none) (hs : ∀ i, ¬ SFp σ ρ i p) : EnvOk B K F (upd H p o) σ ρ := by
  refine ⟨⟨E.st.f0, fun a u e => ?_, fun a u e n => ?_, fun a h => ?_, E.st.nf⟩, E.len, E.sl_mono (Ex.refl F) fun i a h => ⟨(E.live h).1, upd_ne fun z => hs i (by rw [← z]; exact h)⟩, E.sep, E.mine, E.pin⟩
  · rw [upd_ne fun z => by rw [z, hF] at e; cases e]; exact E.fh a u e
  · rw [upd_ne fun z => by rw [z, h0] at e; cases e]; exact E.st.h0 a u e n
  · by_cases z : a = p
    · rw [z, upd_same]; exact fun z => nomatch z
    · rw [upd_ne z]; exact E.st.th a h
theorem St1.stp {F H F' H' : Hp} (s : St1 ⟨F, H, none⟩ F' H') : Stp F H F' H' := ⟨s.f0, s.fh, fun a o e => s.h0 a o e (fun _ z => nomatch z), s.nf⟩
/-- what a comprehension over the items as wants -/
def Comp {α : Type} (K : Fr) (g : TG) (tt : TT) (te : TE) (vs : List Nat) (f : α → PyData) (as : List α) (ρ : En) (P : α → Option PyData → Prop) : Prop :=
  ∀ a, a ∈ as → ∀ B : Bs, B.pin.map Prod.fst = none → WG B K g (f a) (wipeE (hide ρ) vs) fun ρ2 => WT B K tt ρ2 fun b ρ3 => (b = true → WD B K te ρ3 fun y _ => P a (some y)) ∧ (b = false → P a none)
theorem lc_gen {α : Type} {J : It} {g : TG} {tt : TT} {vs : List Nat} {f : α → PyData} {as : List α} {P : α → Option PyData → Prop} {F0 F1 H1 : Hp} {σ : L2.St} {ρ1 : En} {QQ : VK} (gv : GV g vs) (E1 : EnvOk B K F1 H1 σ ρ1) (e1 : Ex F0 F1) (hz : as.length ≤ lim)
    (go : ∀ (i : Nat) (a : α) F H, as[i]? = some a → Ex F1 F → Ex F H → J.go i H)
    (stop : ∀ (i : Nat) F H, as.length ≤ i → Ex F1 F → Ex F H → J.stop i H)
    (yld : ∀ (i : Nat) (a : α) B F H σ ρ x H', as[i]? = some a → EnvOk B K F H σ ρ → Ex F1 F → J.yld i H x H' → ∃ F', EnvOk B K F' H' σ ρ ∧ Ex F F' ∧ Rp K F' x (f a))
    (h : Comp K g tt te vs f as ρ1 P) (k : ∀ v F' H' ys, EnvOk B K F' H' σ ρ1 → Ex F0 F' → ROk B K F' H' σ ρ1 v (.new ys) → Sel P as ys → QQ v H') :
    ∀ D, H1 D = none → ∃ W : Nat → Nat → Hp → Prop, (∃ m, W 0 m (upd H1 D (.lst []))) ∧ ∀ i m H, W i m H →
      (J.stop i H ∧ QQ (.ref D) H) ∨ (J.go i H ∧ ∃ Nx : Hp → Prop, (∀ H', Nx H' → ∃ m', m' < m ∧ W (i + 1) m' H') ∧ ∀ x H', J.yld i H x H' → g x (wipe σ vs) H' fun σ2 H2 => wipe σ2 vs = wipe σ vs ∧ tt σ2 H2 fun b H3 =>
        if b = true then te σ2 H3 fun y H4 => ∃ acc, H4 D = some (.lst acc) ∧ acc.length < sizeLine ∧ Nx (upd H4 D (.lst (acc ++ [y]))) else Nx H3) := by
  intro D hD
  have hs : ∀ i, ¬ SFp σ ρ1 i D := fun i => E1.fr hD i
  have h0 : B.H0 D = none := E1.h0p hD
  refine ⟨fun i m H => m = as.length - i ∧ i ≤ as.length ∧ ∃ F acc ys, EnvOk B K F H σ ρ1 ∧ Ex F1 F ∧ F D = none ∧ H D = some (.lst acc) ∧ RpA K F acc ys ∧ Sel P (as.take i) ys,
    ⟨as.length, (Nat.sub_zero _).symm, Nat.zero_le _, F1, [], [], E1.allocO hD, Ex.refl F1, E1.fh.free hD, upd_same, .nil, .nil⟩, ?_⟩
  rintro i m H2 ⟨rfl, hi, F2, acc, ys, E2, e2, fD, hD2, ra, sel⟩
  by_cases hlt : i < as.length
  · have ea : as[i]? = some as[i] := List.getElem?_eq_getElem hlt
    refine .inr ⟨go i _ F2 H2 ea e2 E2.fh, fun H' => ∃ F acc ys, EnvOk B K F H' σ ρ1 ∧ Ex F1 F ∧ F D = none ∧ H' D = some (.lst acc) ∧ RpA K F acc ys ∧ Sel P (as.take (i + 1)) ys, fun H' p' => ⟨as.length - (i + 1), by omega, rfl, hlt, p'⟩, fun x H' y => ?_⟩
    obtain ⟨F', E', e', rx⟩ := yld i _ _ F2 H2 _ _ x H' ea (E2.inner vs) e2 y
    refine gv.stay (h as[i] (List.getElem_mem hlt) _ rfl F' H' _ x E' rx (fun σ2 H3 => tt σ2 H3 fun b H4 => if b = true then te σ2 H4 fun y H5 => ∃ acc, H5 D = some (.lst acc) ∧ acc.length < sizeLine ∧ ∃ F acc' ys, EnvOk B K F (upd H5 D (.lst (acc ++ [y]))) σ ρ1 ∧ Ex F1 F ∧ F D = none ∧ (upd H5 D (.lst (acc ++ [y]))) D = some (.lst acc') ∧ RpA K F acc' ys ∧ Sel P (as.take (i + 1)) ys
      else ∃ F acc ys, EnvOk B K F H4 σ ρ1 ∧ Ex F1 F ∧ F D = none ∧ H4 D = some (.lst acc) ∧ RpA K F acc ys ∧ Sel P (as.take (i + 1)) ys) fun F3 H3 σ3 ρ3 E3 e3 q3 => ?_) fun σ3 H3 hl hk q => ⟨wipe_eq (by rw [hl, wipe_length]) hk, q⟩
    refine q3 F3 H3 σ3 E3 _ fun b F4 H4 ρ4 E4 e4 q4 => ?_
    cases b with
    | true =>
      refine q4.1 rfl F4 H4 σ3 E4 _ fun v y F5 H5 ρ5 E5 e5 rv q5 => ?_
      have st := E5.st.stp
      have E6 := E2.step st
      have hD5 := st.eh D _ hD2
      have fD5 := st.nf D fD (by rw [hD2]; exact fun z => nomatch z)
      refine ⟨acc, hD5, ?_, F5, acc ++ [v], ys ++ [y], E6.poke fD5 h0 hs, e2.trans st.ef, fD5, upd_same, (ra.mono st.ef).append (.cons rv .nil), ?_⟩
      · have l1 := sel.len
        rw [List.length_take] at l1
        rw [ra.length]
        exact lim_lt (by omega)
      · rw [take_snoc ea]
        exact .yes sel q5
    | false =>
      have st := E4.st.stp
      have E6 := E2.step st
      refine ⟨F4, acc, ys, E6, e2.trans st.ef, st.nf D fD (by rw [hD2]; exact fun z => nomatch z), st.eh D _ hD2, ra.mono st.ef, ?_⟩
      rw [take_snoc ea]
      exact .no sel (q4.2 rfl)
  · have e : i = as.length := by omega
    subst e
    rw [List.take_length] at sel
    exact .inl ⟨stop _ F2 H2 (Nat.le_refl _) e2 E2.fh, k _ F2 H2 ys E2 (e1.trans e2) ⟨D, acc, rfl, fD, hD2, ra, h0, hs⟩ sel⟩
/-- over a list, a tuple, a range, the script -/
theorem we_lcL {α : Type} {tl : TE} {g : TG} {tt : TT} {vs : List Nat} (f : α → PyData) (P : α → Option PyData → Prop) (gv : GV g vs) (h : WD B K tl ρ fun x ρ1 => ∃ as : List α, x = .list (as.map f) ∧ as.length ≤ lim ∧ Comp K g tt te vs f as ρ1 P ∧ ∀ ys, Sel P as ys → Q (.new ys) ρ1) :
    WE B K (tLc (iList K tl) g tt te vs) ρ Q := fun F H σ E QQ k =>
  h F H σ E _ fun v x F1 H1 ρ1 E1 e1 rv ⟨as, hx, hz, hc, q⟩ => by
    subst hx
    cases rv with
    | @lst a ws xs ha ra =>
    have hl : ws.length = as.length := by rw [ra.length, List.length_map]
    refine ⟨a, rfl, ⟨ws, .inl (.inl (E1.fh _ _ ha))⟩, lc_gen (J := Itl K a) gv E1 e1 hz (fun i b F2 H2 ea e2 fh => ?_) (fun i F2 H2 hi e2 fh => ⟨ws, .inl (.inl (fh _ _ (e2 _ _ ha))), by omega⟩) (fun i b B2 F2 H2 σ2 ρ2 y H' ea E2 e2 hy => ?_) hc fun v F2 H2 ys E2 e2 rv2 sel => k v (.new ys) F2 H2 ρ1 E2 e2 rv2 (q ys sel)⟩
    · obtain ⟨w, hw, _⟩ := at_map' ra ea
      exact ⟨ws, w, .inl (.inl (fh _ _ (e2 _ _ ha))), hw⟩
    · obtain ⟨rfl, hy⟩ := hy
      exact ⟨F2, E2, Ex.refl F2, Rp.mono e2 (at_map ra ea (hy ws (.inl (.inl (E2.fh _ _ (e2 _ _ ha))))))⟩
theorem we_lcT {α : Type} {tl : TE} {g : TG} {tt : TT} {vs : List Nat} (f : α → PyData) (P : α → Option PyData → Prop) (gv : GV g vs) (h : WD B K tl ρ fun x ρ1 => ∃ as : List α, x = .tuple (as.map f) ∧ as.length ≤ lim ∧ Comp K g tt te vs f as ρ1 P ∧ ∀ ys, Sel P as ys → Q (.new ys) ρ1) :
    WE B K (tLc (iTup K tl) g tt te vs) ρ Q := fun F H σ E QQ k =>
  h F H σ E _ fun v x F1 H1 ρ1 E1 e1 rv ⟨as, hx, hz, hc, q⟩ => by
    subst hx
    cases rv with
    | @tup a ws xs ha ra =>
    have hl : ws.length = as.length := by rw [ra.length, List.length_map]
    refine ⟨a, rfl, ⟨ws, E1.fh.stt ha⟩, lc_gen (J := Itt K a) gv E1 e1 hz (fun i b F2 H2 ea e2 fh => ?_) (fun i F2 H2 hi e2 fh => ⟨ws, fh.stt (e2.stt ha), by omega⟩) (fun i b B2 F2 H2 σ2 ρ2 y H' ea E2 e2 hy => ?_) hc fun v F2 H2 ys E2 e2 rv2 sel => k v (.new ys) F2 H2 ρ1 E2 e2 rv2 (q ys sel)⟩
    · obtain ⟨w, hw, _⟩ := at_map' ra ea
      exact ⟨ws, w, fh.stt (e2.stt ha), hw⟩
    · obtain ⟨rfl, hy⟩ := hy
      exact ⟨F2, E2, Ex.refl F2, Rp.mono e2 (at_map ra ea (hy ws (E2.fh.stt (e2.stt ha))))⟩
theorem we_lcScr {g : TG} {tt : TT} {vs : List Nat} {j : Nat} {ns : List Int} (P : Int → Option PyData → Prop) (gv : GV g vs) (hj : ρ[j]? = some (some (.scr ns))) (hz : ns.length ≤ lim) (hc : Comp K g tt te vs PyData.int ns ρ P) (q : ∀ ys, Sel P ns ys → Q (.new ys) ρ) :
    WE B K (tLc (iList K (tVar j)) g tt te vs) ρ Q := fun F H σ E QQ k => by
  obtain ⟨v, e, a, hv, hs⟩ := E.sl j _ hj
  subst hv
  refine ⟨.ref a, e, a, rfl, ⟨_, E.fh.sl hs⟩, lc_gen (J := Itl K a) gv E (Ex.refl F) hz (fun i b F2 H2 ea e2 fh => ⟨_, .int b, fh.sl (e2.sl hs), by rw [List.getElem?_map, ea]; rfl⟩) (fun i F2 H2 hi e2 fh => ⟨_, fh.sl (e2.sl hs), by rw [List.length_map]; exact hi⟩) (fun i b B2 F2 H2 σ2 ρ2 y H' ea E2 e2 hy => ?_) hc fun v F2 H2 ys E2 e2 rv2 sel => k v (.new ys) F2 H2 ρ E2 e2 rv2 (q ys sel)⟩
  obtain ⟨rfl, hy⟩ := hy
  have q := hy _ (E2.fh.sl (e2.sl hs))
  rw [List.getElem?_map, ea] at q
  cases q
  exact ⟨F2, E2, Ex.refl F2, Rp.int _⟩
theorem lc_itr {g : TG} {tt : TT} {vs : List Nat} {lo : Int} {n : Nat} {P : Int → Option PyData → Prop} {F0 F1 H1 : Hp} {σ : L2.St} {ρ1 : En} {QQ : VK} (gv : GV g vs) (E1 : EnvOk B K F1 H1 σ ρ1) (e1 : Ex F0 F1) (hz : n ≤ lim) (h : Comp K g tt te vs PyData.int (ixs lo n) ρ1 P)
    (k : ∀ v F' H' ys, EnvOk B K F' H' σ ρ1 → Ex F0 F' → ROk B K F' H' σ ρ1 v (.new ys) → Sel P (ixs lo n) ys → QQ v H') : ∀ D, H1 D = none → ∃ W : Nat → Nat → Hp → Prop, (∃ m, W 0 m (upd H1 D (.lst []))) ∧ ∀ i m H, W i m H →
      ((Itr lo n).stop i H ∧ QQ (.ref D) H) ∨ ((Itr lo n).go i H ∧ ∃ Nx : Hp → Prop, (∀ H', Nx H' → ∃ m', m' < m ∧ W (i + 1) m' H') ∧ ∀ x H', (Itr lo n).yld i H x H' → g x (wipe σ vs) H' fun σ2 H2 => wipe σ2 vs = wipe σ vs ∧ tt σ2 H2 fun b H3 =>
        if b = true then te σ2 H3 fun y H4 => ∃ acc, H4 D = some (.lst acc) ∧ acc.length < sizeLine ∧ Nx (upd H4 D (.lst (acc ++ [y]))) else Nx H3) := by
  refine lc_gen (J := Itr lo n) (f := PyData.int) (as := ixs lo n) gv E1 e1 (by rw [ixs_len]; exact hz) (fun i b F2 H2 ea e2 fh => ?_) (fun i F2 H2 hi e2 fh => ?_) (fun i b B2 F2 H2 σ2 ρ2 y H' ea E2 e2 hy => ?_) h k
  · have := (List.getElem?_eq_some_iff.mp ea).1
    rw [ixs_len] at this
    exact this
  · rw [ixs_len] at hi
    exact hi
  · obtain ⟨rfl, rfl⟩ := hy
    rw [ixs_at] at ea
    split at ea
    · cases ea
      exact ⟨F2, E2, Ex.refl F2, Rp.int _⟩
    · cases ea
theorem we_lc1 {tn : TE} {g : TG} {tt : TT} {vs : List Nat} (P : Int → Option PyData → Prop) (gv : GV g vs) (h : WD B K tn ρ fun x ρ1 => ∃ n : Int, x = .int n ∧ -1000000 ≤ n ∧ n ≤ 1000000 ∧ Comp K g tt te vs PyData.int (ixs 0 n.toNat) ρ1 P ∧ ∀ ys, Sel P (ixs 0 n.toNat) ys → Q (.new ys) ρ1) :
    WE B K (tLc (iRng1 (tCons tn tNil)) g tt te vs) ρ Q := fun F H σ E QQ k =>
  h F H σ E _ fun v x F1 H1 ρ1 E1 e1 rv ⟨n, hx, n0, n1, hc, q⟩ => by
    subst hx
    cases rv
    exact ⟨n, rfl, by omega, by omega, lc_itr gv E1 e1 (by show n.toNat ≤ 1000000; omega) hc fun v F2 H2 ys E2 e2 rv2 sel => k v (.new ys) F2 H2 ρ1 E2 e2 rv2 (q ys sel)⟩
end
end SV

set_option maxHeartbeats 1000000
namespace SV
open PySem PySem.Spec L2
open Evl (Ex)

/-! ### what a def is worth, over plain data -/
abbrev GF := List L → (R → List PyData → Prop) → (Addr → Prop) → Prop
def pinAt (pin : Option Nat) (vs : List V) : Option (Nat × Addr) :=
  match pin with
  | none => none
  | some p => match vs[p]? with
    | some (.ref a) => some (p, a)
    | _ => none
def keyD : Key → PyData
  | .inl i => .int i
  | .inr s => .str s
/-- what stands in the argument that the def may change: a list's items; a dict's keys and values -/
def Own1 (B : Bs) (K : Fr) (F H : Hp) (ys : List PyData) : Prop :=
  match B.pin with
  | none => ys = []
  | some (_, a) => F a = none ∧ (((∃ ws, H a = some (.lst ws) ∧ RpA K F ws ys) ∧ ∃ vs, B.H0 a = some (.lst vs)) ∨ ((∃ (ks : List Key) (ws : List V) (xs : List PyData), H a = some (.dK (ks.zip ws)) ∧ ks.length = xs.length ∧ RpA K F ws xs ∧ ys = [.list (ks.map keyD), .list xs]) ∧ ∃ kvs, B.H0 a = some (.dK kvs)))
def RetOk (B : Bs) (K : Fr) (F H : Hp) (v : V) : R → Prop
  | .d x => Rp K F v x
  | .new xs => ∃ a vs, v = .ref a ∧ F a = none ∧ H a = some (.lst vs) ∧ RpA K F vs xs ∧ B.H0 a = none
  | .scr ns => ∃ a, v = .ref a ∧ SqL K F a (ns.map V.int)
  | .raw w => v = w
  | .deep t => Ot K F H v t ∧ t.fp.Nodup ∧ ∀ a, a ∈ t.fp → B.H0 a = none
  | .newD ks xs => ∃ a vs, v = .ref a ∧ F a = none ∧ H a = some (.dK (ks.zip vs)) ∧ ks.length = xs.length ∧ RpA K F vs xs ∧ B.H0 a = none
structure Args (K : Fr) (pin : Option Nat) (F H0 H : Hp) (vs : List V) (ls : List L) : Prop where
  ok : EnvOk ⟨F, H0, pinAt pin vs⟩ K F H (vs.map some) (ls.map some)
  pn : (pinAt pin vs).map Prod.fst = pin
def SpG (K : Fr) (pin : Option Nat) (G : GF) : Sp := fun vs H Q E => ∃ F H0 ls Po Pe, Args K pin F H0 H vs ls ∧ G ls Po Pe ∧
  (∀ v r F' H' ys, St1 ⟨F, H0, pinAt pin vs⟩ F' H' → RetOk ⟨F, H0, pinAt pin vs⟩ K F' H' v r → Own1 ⟨F, H0, pinAt pin vs⟩ K F' H' ys → Po r ys → Q v H') ∧
  ∀ C F' H' ys, St1 ⟨F, H0, pinAt pin vs⟩ F' H' → Own1 ⟨F, H0, pinAt pin vs⟩ K F' H' ys → Pe C → E (.ref C) none H'
def ownAt (pin : Option Nat) (ρ : En) : List PyData :=
  match pin with
  | none => []
  | some p => match ρ[p]? with
    | some (some (.own ys)) => ys
    | some (some (.ownD ks xs)) => [.list (ks.map keyD), .list xs]
    | _ => []
def Zf (pin : Option Nat) (Po : R → List PyData → Prop) : Zs := { nx := fun ρ => Po (.d .none) (ownAt pin ρ), rt := fun r ρ => Po r (ownAt pin ρ) }
def EK (B : Bs) (K : Fr) (E : XK) (C : Addr) : Prop := ∀ F H σ ρ, EnvOk B K F H σ ρ → E (.ref C) none H
section
variable {B : Bs} {K : Fr} {F H F' H' : Hp} {σ : L2.St} {ρ : En} {v : V} {r : R}
theorem EnvOk.own1 (E : EnvOk B K F H σ ρ) {pin : Option Nat} (hp : B.pin.map Prod.fst = pin) : Own1 B K F H (ownAt pin ρ) := by
  unfold Own1
  cases e : B.pin with
  | none => rw [e] at hp; cases hp; rfl
  | some q =>
    obtain ⟨p, a⟩ := q
    rw [e] at hp
    cases hp
    obtain ⟨h1, h3⟩ := E.pin p a e
    have key : ∀ l, ρ[p]? = some (some l) → ownAt (some p) ρ = match l with | .own ys => ys | .ownD ks xs => [.list (ks.map keyD), .list xs] | _ => [] := fun l hl => by
      unfold ownAt
      simp only [hl]
      cases l <;> rfl
    show F a = none ∧ _
    rcases h3 with ⟨⟨xs, h2⟩, hk⟩ | ⟨⟨ks, xs, h2⟩, hk⟩
    · obtain ⟨a', vs, e2, k1, k2, k3⟩ := E.own_at h2
      rw [h1] at e2
      cases e2
      exact ⟨k1, .inl ⟨⟨vs, k2, by rw [show ownAt (Option.map Prod.fst (some (p, a))) ρ = xs from key _ h2]; exact k3⟩, hk⟩⟩
    · obtain ⟨a', vs, e2, k1, k2, hl, k3⟩ := E.ownD_at h2
      rw [h1] at e2
      cases e2
      exact ⟨k1, .inr ⟨⟨ks, vs, xs, k2, hl, k3, key _ h2⟩, hk⟩⟩
theorem ROk.ret (h : ROk B K F H σ ρ v r) : RetOk B K F H v r := by
  cases r with
  | d x => exact h
  | new xs => obtain ⟨a, vs, e, k1, k2, k3, k4, _⟩ := h; exact ⟨a, vs, e, k1, k2, k3, k4⟩
  | scr ns => exact h
  | raw w => exact h
  | deep t => exact ⟨h.1, h.2.1, fun a ha => (h.2.2 a ha).1⟩
  | newD ks xs => obtain ⟨a, vs, e, k1, k2, hl, k3, k4, _⟩ := h; exact ⟨a, vs, e, k1, k2, hl, k3, k4⟩
theorem EnvOk.pad (E : EnvOk B K F H σ ρ) (k : Nat) : EnvOk B K F H (σ ++ List.replicate k none) (ρ ++ List.replicate k none) := by
  have at_ : ∀ (i : Nat) (l : L), (ρ ++ List.replicate k none)[i]? = some (some l) → ρ[i]? = some (some l) ∧ (σ ++ List.replicate k none)[i]? = σ[i]? := fun i l e => by
    by_cases h : i < ρ.length
    · rw [List.getElem?_append_left h] at e
      exact ⟨e, List.getElem?_append_left (by rw [E.len]; exact h)⟩
    · rw [List.getElem?_append_right (by omega), List.getElem?_replicate] at e
      split at e
      · cases e
      · cases e
  have fpo : ∀ i a, SFp (σ ++ List.replicate k none) (ρ ++ List.replicate k none) i a → SFp σ ρ i a := fun i a ⟨l, v, e1, e2, e3⟩ => by
    obtain ⟨q, s⟩ := at_ i l e1
    exact ⟨l, v, q, s ▸ e2, e3⟩
  refine ⟨E.st, by rw [List.length_append, List.length_append, E.len, List.length_replicate, List.length_replicate], fun i l e => ?_, fun i j a e1 e2 => E.sep i j a (fpo _ _ e1) (fpo _ _ e2), fun i a e1 => E.mine i a (fpo _ _ e1), fun i a e => ?_⟩
  · obtain ⟨q, s⟩ := at_ i l e
    rw [s]
    exact E.sl i l q
  · obtain ⟨q1, q2⟩ := E.pin i a e
    have hi : i < ρ.length := by
      rcases q2 with ⟨⟨xs, q2⟩, _⟩ | ⟨⟨ks, xs, q2⟩, _⟩ <;> exact (List.getElem?_eq_some_iff.mp q2).1
    rw [List.getElem?_append_left (by rw [E.len]; exact hi), List.getElem?_append_left hi]
    exact ⟨q1, q2⟩
/-- a def's body read over plain data -/
theorem rd_of {N : List Str} {t : TS} {pin : Option Nat} {G : GF} {vs : List V} {Q : VK} {E : XK} (h : SpG K pin G vs H Q E)
    (w : ∀ B ls Po Pe, B.pin.map Prod.fst = pin → G ls Po Pe → (∀ C, Pe C → EK B K E C) → WS B K t (ls.map some ++ List.replicate (N.length - ls.length) none) (Zf pin Po)) : t { nx := fun _ H' => Q .non H', rt := Q } (L2.start N vs) H := by
  obtain ⟨F, H0, ls, Po, Pe, ha, hG, hQ, hE⟩ := h
  have hl : vs.length = ls.length := by
    have := ha.ok.len
    rw [List.length_map, List.length_map] at this
    exact this
  have E0 := ha.ok.pad (N.length - ls.length)
  have ww := w ⟨F, H0, pinAt pin vs⟩ ls Po Pe ha.pn hG fun C hC F' H' σ' ρ' E' => hE C F' H' _ E'.st (E'.own1 ha.pn) hC
  unfold L2.start
  rw [hl]
  exact ww F H _ E0 _ ⟨fun F' H' σ' ρ' E' _ q => hQ .non (.d .none) F' H' _ E'.st Rp.non (E'.own1 ha.pn) q, fun F' H' σ' ρ' v r E' _ rv q => hQ v r F' H' _ E'.st rv.ret (E'.own1 ha.pn) q, fun _ _ _ _ _ _ q => q.elim, fun _ _ _ _ _ _ q => q.elim⟩
theorem SpG.len {pin : Option Nat} {G : GF} {n : Nat} (hG : ∀ ls Po Pe, G ls Po Pe → ls.length = n) : ∀ vs H Q E, SpG K pin G vs H Q E → vs.length = n := fun vs H Q E h => by
  obtain ⟨F, H0, ls, Po, Pe, ha, hg, _⟩ := h
  have := ha.ok.len
  rw [List.length_map, List.length_map] at this
  rw [this]
  exact hG ls Po Pe hg
end
/-! ### calls -/
def argL : List Ar → Option (List L)
  | [] => some []
  | .d x :: r => (argL r).map (.d x :: ·)
  | .scr ns :: r => (argL r).map (.scr ns :: ·)
  | .raw v :: r => (argL r).map (.raw v :: ·)
  | .own _ :: _ => none
section
variable {B : Bs} {K : Fr} {F F1 H H1 F' H' : Hp} {σ : L2.St} {ρ ρ1 : En} {ta : TA} {Q : R → En → Prop}
theorem args_sl : ∀ {as : List Ar} {vs : List V} {ls : List L}, AOks K F σ vs as → argL as = some ls → vs.length = ls.length ∧ ∀ (i : Nat) (l : L), ls[i]? = some l → (∃ v, vs[i]? = some v ∧ SlotOk K F H v l) ∧ l.pl = true
  | [], _, _, .nil, e => by
    cases e
    exact ⟨rfl, fun i l h => by simp at h⟩
  | a :: as, _, ls, .cons (v := v) (vs := vs) ha hs, e => by
    have key : ∃ l ls', ls = l :: ls' ∧ argL as = some ls' ∧ SlotOk K F H v l ∧ l.pl = true := by
      cases a with
      | d x =>
        cases q : argL as with
        | none => unfold argL at e; rw [q] at e; cases e
        | some ls' => unfold argL at e; rw [q] at e; cases e; exact ⟨_, ls', rfl, rfl, ha, rfl⟩
      | scr x =>
        cases q : argL as with
        | none => unfold argL at e; rw [q] at e; cases e
        | some ls' => unfold argL at e; rw [q] at e; cases e; exact ⟨_, ls', rfl, rfl, ha, rfl⟩
      | raw x =>
        cases q : argL as with
        | none => unfold argL at e; rw [q] at e; cases e
        | some ls' => unfold argL at e; rw [q] at e; cases e; exact ⟨_, ls', rfl, rfl, ha, rfl⟩
      | own j => cases e
    obtain ⟨l, ls', rfl, e', sl, no⟩ := key
    obtain ⟨h1, h2⟩ := args_sl hs e'
    refine ⟨congrArg (· + 1) h1, fun i l2 h => ?_⟩
    cases i with
    | zero =>
      have z := Option.some.inj h
      subst z
      exact ⟨⟨v, rfl, sl⟩, no⟩
    | succ i => exact h2 i l2 h
theorem map_some_at {ls : List L} {i : Nat} {l : L} (e : (ls.map some)[i]? = some (some l)) : ls[i]? = some l := by
  rw [List.getElem?_map] at e
  cases q : ls[i]? with
  | none => rw [q] at e; cases e
  | some l' => rw [q] at e; exact congrArg some (Option.some.inj (Option.some.inj e))
/-- arguments of which the callee may hold none -/
theorem args_pl {vs : List V} {ls : List L} (fh : Ex F H) (hl : vs.length = ls.length) (hs : ∀ (i : Nat) (l : L), ls[i]? = some l → (∃ v, vs[i]? = some v ∧ SlotOk K F H v l) ∧ l.pl = true) : Args K none F H H vs ls := by
  have no : ∀ i a, ¬ SFp (vs.map some) (ls.map some) i a := fun i a ⟨l, _, e, _, h⟩ => LFp.no (hs i l (map_some_at e)).2 h
  refine ⟨⟨⟨Ex.refl F, fh, fun a o e _ => e, fun a h => h, fun a h _ => h⟩, by rw [List.length_map, List.length_map, hl], fun i l e => ?_, fun i j a e1 _ => absurd e1 (no _ _), fun i a e1 => absurd e1 (no _ _), fun i a e => nomatch e⟩, rfl⟩
  obtain ⟨⟨v, hv, sv⟩, _⟩ := hs i _ (map_some_at e)
  exact ⟨v, by rw [List.getElem?_map, hv]; rfl, sv⟩
/-- an answer, where the caller stands -/
theorem ret_ok {H0 : Hp} (E : EnvOk B K F' H' σ ρ) (hf : ∀ a, H0 a = none → B.H0 a = none ∧ ∀ i, ¬ SFp σ ρ i a) {pin : Option (Nat × Addr)} {v : V} {r : R} (rv : RetOk ⟨F, H0, pin⟩ K F' H' v r) : ROk B K F' H' σ ρ v r := by
  cases r with
  | d x => exact rv
  | new xs =>
    obtain ⟨a, ws, e, k1, k2, k3, k4⟩ := rv
    exact ⟨a, ws, e, k1, k2, k3, (hf a k4).1, (hf a k4).2⟩
  | scr ns => exact rv
  | raw w => exact rv
  | deep t => exact ⟨rv.1, rv.2.1, fun a ha => hf a (rv.2.2 a ha)⟩
  | newD ks xs =>
    obtain ⟨a, ws, e, k1, k2, hl, k3, k4⟩ := rv
    exact ⟨a, ws, e, k1, k2, hl, k3, (hf a k4).1, (hf a k4).2⟩
theorem EnvOk.fr2 (E : EnvOk B K F H σ ρ) (a : Addr) (h : H a = none) : B.H0 a = none ∧ ∀ i, ¬ SFp σ ρ i a := ⟨E.h0p h, fun i => E.fr h i⟩
theorem we_call {G : GF} {E : XK} (h : WA B K ta ρ fun as ρ1 => ∃ ls Pe, argL as = some ls ∧ G ls (fun r _ => Q r ρ1) Pe ∧ ∀ C, Pe C → EK B K E C) : WE B K (tCall (SpG K none G) [] E ta) ρ Q := fun F H σ E0 QQ k =>
  h F H σ E0 _ fun vs as F1 H1 ρ1 E1 e1 av ⟨ls, Pe, ha, hG, hE⟩ => by
    show SpG K none G (vs ++ []) H1 QQ E
    rw [List.append_nil]
    obtain ⟨hl, hs⟩ := args_sl (H := H1) av ha
    exact ⟨F1, H1, ls, fun r _ => Q r ρ1, Pe, args_pl E1.fh hl hs, hG, fun v r F' H' ys st rv _ q =>
      have E2 := E1.step st.stp
      k v r F' H' ρ1 E2 (e1.trans st.stp.ef) (ret_ok E2 E1.fr2 rv) q, fun C F' H' ys st _ hC => hE C hC F' H' σ ρ1 (E1.step st.stp)⟩
/-- the heap goes on, but the own list or dict of slot j is another one -/
theorem EnvOk.stepW (E : EnvOk B K F H σ ρ) {j p : Nat} {a : Addr} {l l' : L} (hj : ρ[j]? = some (some l)) (ha : σ[j]? = some (some (.ref a))) (hl : ∀ b, LFp (.ref a) l b ↔ b = a) (st : St1 ⟨F, H, some (p, a)⟩ F' H') (s : SlotOk K F' H' (.ref a) l') (hl' : ∀ b, LFp (.ref a) l' b → b = a)
    (hp : (∃ xs ys, l = .own ys ∧ l' = .own xs) ∨ (∃ ks xs js ys, l = .ownD js ys ∧ l' = .ownD ks xs)) :
    EnvOk B K F' H' σ (ρ.set j (some l')) := by
  have fa : SFp σ ρ j a := ⟨l, _, hj, ha, (hl a).mpr rfl⟩
  have k1 := (E.live fa).1
  have ne : ∀ b o, b ≠ a → H b = some o → H' b = some o := fun b o n e => st.h0 b o e fun i z => n (Prod.mk.inj (Option.some.inj z)).2.symm
  have keep : ∀ i b, SFp σ ρ i b → i ≠ j → F' b = none ∧ H' b = H b := fun i b hb n => by
    obtain ⟨m1, o, m2⟩ := E.live hb
    have hb' : b ≠ a := fun z => by subst z; exact n (E.sep i j b hb fa)
    exact ⟨st.nf b m1 (by rw [show (⟨F, H, some (p, a)⟩ : Bs).H0 b = H b from rfl, m2]; exact fun z => nomatch z), (ne b _ hb' m2).trans m2.symm⟩
  have st2 : St1 B F' H' := by
    refine ⟨E.st.f0.trans st.f0, st.fh, fun b u e n => ?_, fun b hb => ?_, fun b h1 h2 => st.nf b (E.st.nf b h1 h2) (E.st.th b h2)⟩
    · have hb : b ≠ a := fun z => by
        subst z
        rcases E.mine j b fa with z | z
        · rw [z] at e; cases e
        · exact n j z
      exact ne b u hb (E.st.h0 b u e n)
    · exact st.th b (E.st.th b hb)
  have hi : j < ρ.length := (List.getElem?_eq_some_iff.mp hj).1
  have fpo : ∀ i b, SFp σ (ρ.set j (some l')) i b → SFp σ ρ i b := fun i b ⟨m, w, e1, e2, e3⟩ => by
    rcases set_cases e1 with ⟨rfl, _, e⟩ | ⟨n, e⟩
    · cases e
      rw [ha] at e2
      cases e2
      rw [hl' b e3]
      exact fa
    · exact ⟨m, w, e, e2, e3⟩
  refine ⟨st2, by rw [List.length_set]; exact E.len, fun i m e => ?_, fun i m b e1 e2 => E.sep i m b (fpo _ _ e1) (fpo _ _ e2), fun i b e => E.mine i b (fpo _ _ e), fun i b e => ?_⟩
  · rcases set_cases e with ⟨rfl, _, e'⟩ | ⟨n, e'⟩
    · cases e'; exact ⟨_, ha, s⟩
    · obtain ⟨w, e1, s'⟩ := E.sl i m e'
      exact ⟨w, e1, s'.mono st.f0 fun b hb => keep i b ⟨m, w, e', e1, hb⟩ n⟩
  · obtain ⟨q1, q2⟩ := E.pin i b e
    refine ⟨q1, ?_⟩
    by_cases h : i = j
    · subst h
      rw [List.getElem?_set_self hi]
      rw [hj] at q2
      rcases hp with ⟨xs, ys, rfl, rfl⟩ | ⟨ks, ts, js, ys, rfl, rfl⟩
      · rcases q2 with ⟨_, q2⟩ | ⟨⟨_, _, q2⟩, _⟩
        · exact .inl ⟨⟨xs, rfl⟩, q2⟩
        · cases q2
      · rcases q2 with ⟨⟨_, q2⟩, _⟩ | ⟨_, q2⟩
        · cases q2
        · exact .inr ⟨⟨ks, ts, rfl⟩, q2⟩
    · rw [List.getElem?_set_ne (Ne.symm h)]; exact q2
theorem AOks.split : ∀ {as bs : List Ar} {vs : List V}, AOks K F σ vs (as ++ bs) → ∃ us ws, vs = us ++ ws ∧ us.length = as.length ∧ AOks K F σ us as ∧ AOks K F σ ws bs
  | [], _, vs, h => ⟨[], vs, rfl, rfl, .nil, h⟩
  | _ :: _, _, _, .cons h r => by
    obtain ⟨us, ws, rfl, hl, h1, h2⟩ := AOks.split r
    exact ⟨_ :: us, ws, rfl, congrArg (· + 1) hl, .cons h h1, h2⟩
/-- one own argument among plain ones -/
theorem args_own {H0 : Hp} {pin : Option (Nat × Addr)} {us ws : List V} {l1 l2 : List L} {v : V} {l : L} {p : Nat} (hlen : l1.length = p) (fh : Ex F H) (h0 : ∀ b o, H0 b = some o → H b = some o)
    (n1 : us.length = l1.length) (s1 : ∀ (i : Nat) (l : L), l1[i]? = some l → (∃ v, us[i]? = some v ∧ SlotOk K F H v l) ∧ l.pl = true)
    (n2 : ws.length = l2.length) (s2 : ∀ (i : Nat) (l : L), l2[i]? = some l → (∃ v, ws[i]? = some v ∧ SlotOk K F H v l) ∧ l.pl = true)
    (sv : SlotOk K F H v l) (hm : ∀ b, LFp v l b → H0 b = none ∨ pin = some (p, b))
    (hpin : ∀ i a, pin = some (i, a) → i = p ∧ v = .ref a ∧ (((∃ xs, l = .own xs) ∧ ∃ vs, H0 a = some (.lst vs)) ∨ ((∃ ks xs, l = .ownD ks xs) ∧ ∃ kvs, H0 a = some (.dK kvs)))) :
    EnvOk ⟨F, H0, pin⟩ K F H ((us ++ v :: ws).map some) ((l1 ++ l :: l2).map some) := by
  have at_ : ∀ (i : Nat) (m : L), (l1 ++ l :: l2)[i]? = some m → (∃ w, (us ++ v :: ws)[i]? = some w ∧ SlotOk K F H w m) ∧ ((i = p ∧ m = l) ∨ m.pl = true) := fun i m e => by
    by_cases h1 : i < l1.length
    · rw [List.getElem?_append_left h1] at e
      obtain ⟨⟨w, hv, sw⟩, no⟩ := s1 i m e
      exact ⟨⟨w, by rw [List.getElem?_append_left (by omega)]; exact hv, sw⟩, .inr no⟩
    · by_cases h2 : i = l1.length
      · subst h2
        rw [List.getElem?_append_right (Nat.le_refl _), Nat.sub_self] at e
        have e' := Option.some.inj e
        subst e'
        refine ⟨⟨v, ?_, sv⟩, .inl ⟨hlen, rfl⟩⟩
        rw [List.getElem?_append_right (by omega), show l1.length - us.length = 0 by omega]
        rfl
      · rw [List.getElem?_append_right (by omega), show i - l1.length = (i - l1.length - 1) + 1 by omega, List.getElem?_cons_succ] at e
        obtain ⟨⟨w, hv, sw⟩, no⟩ := s2 _ m e
        refine ⟨⟨w, ?_, sw⟩, .inr no⟩
        rw [List.getElem?_append_right (by omega), show i - us.length = (i - l1.length - 1) + 1 by omega, List.getElem?_cons_succ]
        exact hv
  have at_p : ((us ++ v :: ws).map some)[p]? = some (some v) := by
    rw [List.getElem?_map, List.getElem?_append_right (by omega), show p - us.length = 0 by omega]
    rfl
  have at_l : ((l1 ++ l :: l2).map some)[p]? = some (some l) := by
    rw [List.getElem?_map, List.getElem?_append_right (by omega), show p - l1.length = 0 by omega]
    rfl
  have fpo : ∀ i b, SFp ((us ++ v :: ws).map some) ((l1 ++ l :: l2).map some) i b → i = p ∧ LFp v l b := fun i b ⟨m, w, e1, e2, e3⟩ => by
    rcases (at_ i m (map_some_at e1)).2 with ⟨rfl, rfl⟩ | no
    · rw [at_p] at e2
      cases e2
      exact ⟨rfl, e3⟩
    · exact absurd e3 (LFp.no no)
  refine ⟨⟨Ex.refl F, fh, fun a o e _ => h0 a o e, fun a h => ?_, fun a h _ => h⟩, ?_, fun i m e => ?_, fun i m b e1 e2 => (fpo _ _ e1).1.trans (fpo _ _ e2).1.symm, fun i b e => ?_, fun i b e => ?_⟩
  · cases q : H0 a with
    | none => exact absurd q h
    | some o => rw [h0 a o q]; exact fun z => nomatch z
  · rw [List.length_map, List.length_map, List.length_append, List.length_append, List.length_cons, List.length_cons, n1, n2]
  · obtain ⟨⟨w, hv, sw⟩, _⟩ := at_ i m (map_some_at e)
    exact ⟨w, by rw [List.getElem?_map, hv]; rfl, sw⟩
  · obtain ⟨rfl, q⟩ := fpo i b e
    exact hm b q
  · obtain ⟨rfl, rfl, q⟩ := hpin i b e
    refine ⟨at_p, ?_⟩
    rw [at_l]
    rcases q with ⟨⟨xs, rfl⟩, q⟩ | ⟨⟨ks, xs, rfl⟩, q⟩
    · exact .inl ⟨⟨xs, rfl⟩, q⟩
    · exact .inr ⟨⟨ks, xs, rfl⟩, q⟩
theorem pinAt_own {us ws : List V} {a : Addr} {p : Nat} (hu : us.length = p) : pinAt (some p) (us ++ .ref a :: ws) = some (p, a) := by
  have e : (us ++ V.ref a :: ws)[p]? = some (.ref a) := by
    rw [List.getElem?_append_right (by omega), show p - us.length = 0 by omega]
    rfl
  show (match (us ++ V.ref a :: ws)[p]? with | some (.ref a) => some (p, a) | _ => none) = some (p, a)
  rw [e]
theorem we_callP {G : GF} {E : XK} {p : Nat} (h : WA B K ta ρ fun as ρ1 => ∃ pre post j xs l1 l2 Pe, as = pre ++ .own j :: post ∧ pre.length = p ∧ ρ1[j]? = some (some (.own xs)) ∧ argL pre = some l1 ∧ argL post = some l2 ∧ G (l1 ++ .own xs :: l2) (fun r ys => Q r (ρ1.set j (some (.own ys)))) Pe ∧ ∀ C, Pe C → EK B K E C) :
    WE B K (tCall (SpG K (some p) G) [] E ta) ρ Q := fun F H σ E0 QQ k =>
  h F H σ E0 _ fun vs as F1 H1 ρ1 E1 e1 av ⟨pre, post, j, xs, l1, l2, Pe, ea, hp, hj, hl1, hl2, hG, hE⟩ => by
    show SpG K (some p) G (vs ++ []) H1 QQ E
    rw [List.append_nil]
    subst ea
    obtain ⟨us, ws, rfl, hu, au, aw⟩ := av.split
    cases aw with
    | @cons v ws a as hv aw =>
    obtain ⟨a, cs, ha, f1, f2, f3⟩ := E1.own_at hj
    rw [show σ[j]? = some (some v) from hv] at ha
    cases ha
    obtain ⟨n1, s1⟩ := args_sl (H := H1) au hl1
    obtain ⟨n2, s2⟩ := args_sl (H := H1) aw hl2
    have pa : pinAt (some p) (us ++ .ref a :: ws) = some (p, a) := pinAt_own (hu.trans hp)
    have A := args_own (H0 := H1) (pin := some (p, a)) (v := .ref a) (l := .own xs) (n1.symm.trans (hu.trans hp)) E1.fh (fun b o e => e) n1 s1 n2 s2 ⟨a, cs, rfl, f1, f2, f3⟩ (fun b hb => .inr (by cases (show V.ref a = V.ref b from hb); rfl))
      (fun i b e => by cases e; exact ⟨rfl, rfl, .inl ⟨⟨xs, rfl⟩, cs, f2⟩⟩)
    have back : ∀ F' H' ys, St1 ⟨F1, H1, some (p, a)⟩ F' H' → Own1 ⟨F1, H1, some (p, a)⟩ K F' H' ys → EnvOk B K F' H' σ (ρ1.set j (some (.own ys))) := fun F' H' ys st ow => by
      obtain ⟨fa, ow⟩ := (show F' a = none ∧ _ from ow)
      rcases ow with ⟨⟨vs', hw, rw'⟩, _⟩ | ⟨_, kvs, hk⟩
      · exact E1.stepW hj hv (fun b => ⟨fun z => by cases (show V.ref a = V.ref b from z); rfl, fun z => by subst z; rfl⟩) st ⟨a, vs', rfl, fa, hw, rw'⟩ (fun b z => by cases (show V.ref a = V.ref b from z); rfl) (.inl ⟨_, _, rfl, rfl⟩)
      · rw [show (⟨F1, H1, some (p, a)⟩ : Bs).H0 a = H1 a from rfl, f2] at hk
        cases hk
    have fr3 : ∀ ys b, H1 b = none → B.H0 b = none ∧ ∀ i, ¬ SFp σ (ρ1.set j (some (.own ys))) i b := fun ys b hb => ⟨E1.h0p hb, fun i ⟨m, w, q1, q2, q3⟩ => by
      rcases set_cases q1 with ⟨rfl, _, e⟩ | ⟨n, e⟩
      · cases e
        rw [hv] at q2
        cases q2
        cases (show V.ref a = V.ref b from q3)
        rw [f2] at hb
        cases hb
      · exact E1.fr hb i ⟨m, w, e, q2, q3⟩⟩
    unfold SpG
    rw [pa]
    refine ⟨F1, H1, l1 ++ .own xs :: l2, fun r ys => Q r (ρ1.set j (some (.own ys))), Pe, ⟨by rw [pa]; exact A, by rw [pa]; rfl⟩, hG, fun v r F' H' ys st rv ow q => ?_, fun C F' H' ys st ow hC => hE C hC F' H' σ _ (back F' H' ys st ow)⟩
    exact k v r F' H' _ (back F' H' ys st ow) (e1.trans st.f0) (ret_ok (back F' H' ys st ow) (fr3 ys) rv) q
/-- a callee that changes the own dict of slot j -/
theorem we_callPD {G : GF} {E : XK} {p : Nat} (h : WA B K ta ρ fun as ρ1 => ∃ pre post j ks xs l1 l2 Pe, as = pre ++ .own j :: post ∧ pre.length = p ∧ ρ1[j]? = some (some (.ownD ks xs)) ∧ argL pre = some l1 ∧ argL post = some l2 ∧
      G (l1 ++ .ownD ks xs :: l2) (fun r ys => ∀ js zs, ys = [.list (js.map keyD), .list zs] → Q r (ρ1.set j (some (.ownD js zs)))) Pe ∧ ∀ C, Pe C → EK B K E C) :
    WE B K (tCall (SpG K (some p) G) [] E ta) ρ Q := fun F H σ E0 QQ k =>
  h F H σ E0 _ fun vs as F1 H1 ρ1 E1 e1 av ⟨pre, post, j, ks, xs, l1, l2, Pe, ea, hp, hj, hl1, hl2, hG, hE⟩ => by
    show SpG K (some p) G (vs ++ []) H1 QQ E
    rw [List.append_nil]
    subst ea
    obtain ⟨us, ws, rfl, hu, au, aw⟩ := av.split
    cases aw with
    | @cons v ws a as hv aw =>
    obtain ⟨a, cs, ha, f1, f2, hkl, f3⟩ := E1.ownD_at hj
    rw [show σ[j]? = some (some v) from hv] at ha
    cases ha
    obtain ⟨n1, s1⟩ := args_sl (H := H1) au hl1
    obtain ⟨n2, s2⟩ := args_sl (H := H1) aw hl2
    have pa : pinAt (some p) (us ++ .ref a :: ws) = some (p, a) := pinAt_own (hu.trans hp)
    have A := args_own (H0 := H1) (pin := some (p, a)) (v := .ref a) (l := .ownD ks xs) (n1.symm.trans (hu.trans hp)) E1.fh (fun b o e => e) n1 s1 n2 s2 ⟨a, cs, rfl, f1, f2, hkl, f3⟩ (fun b hb => .inr (by cases (show V.ref a = V.ref b from hb); rfl))
      (fun i b e => by cases e; exact ⟨rfl, rfl, .inr ⟨⟨ks, xs, rfl⟩, _, f2⟩⟩)
    have back : ∀ F' H' ys, St1 ⟨F1, H1, some (p, a)⟩ F' H' → Own1 ⟨F1, H1, some (p, a)⟩ K F' H' ys → ∃ js zs, ys = [.list (js.map keyD), .list zs] ∧ EnvOk B K F' H' σ (ρ1.set j (some (.ownD js zs))) := fun F' H' ys st ow => by
      obtain ⟨fa, ow⟩ := (show F' a = none ∧ _ from ow)
      rcases ow with ⟨_, vs, hk⟩ | ⟨⟨js, vs', zs, hw, hl', rw', e⟩, _⟩
      · rw [show (⟨F1, H1, some (p, a)⟩ : Bs).H0 a = H1 a from rfl, f2] at hk
        cases hk
      · exact ⟨js, zs, e, E1.stepW hj hv (fun b => ⟨fun z => by cases (show V.ref a = V.ref b from z); rfl, fun z => by subst z; rfl⟩) st ⟨a, vs', rfl, fa, hw, hl', rw'⟩ (fun b z => by cases (show V.ref a = V.ref b from z); rfl) (.inr ⟨_, _, _, _, rfl, rfl⟩)⟩
    have fr3 : ∀ js zs b, H1 b = none → B.H0 b = none ∧ ∀ i, ¬ SFp σ (ρ1.set j (some (.ownD js zs))) i b := fun js zs b hb => ⟨E1.h0p hb, fun i ⟨m, w, q1, q2, q3⟩ => by
      rcases set_cases q1 with ⟨rfl, _, e⟩ | ⟨n, e⟩
      · cases e
        rw [hv] at q2
        cases q2
        cases (show V.ref a = V.ref b from q3)
        rw [f2] at hb
        cases hb
      · exact E1.fr hb i ⟨m, w, e, q2, q3⟩⟩
    unfold SpG
    rw [pa]
    refine ⟨F1, H1, l1 ++ .ownD ks xs :: l2, fun r ys => ∀ js zs, ys = [.list (js.map keyD), .list zs] → Q r (ρ1.set j (some (.ownD js zs))), Pe, ⟨by rw [pa]; exact A, by rw [pa]; rfl⟩, hG, fun v r F' H' ys st rv ow q => ?_, fun C F' H' ys st ow hC => ?_⟩
    · obtain ⟨js, zs, e, E2⟩ := back F' H' ys st ow
      exact k v r F' H' _ E2 (e1.trans st.f0) (ret_ok E2 (fr3 js zs) rv) (q js zs e)
    · obtain ⟨js, zs, e, E2⟩ := back F' H' ys st ow
      exact hE C hC F' H' σ _ E2
/-- the own things of slot j are given away -/
noncomputable def cutH (H : Hp) (A : Addr → Prop) : Hp := fun a => @ite _ (A a) (Classical.propDecidable _) none (H a)
theorem cutH_yes {H : Hp} {A : Addr → Prop} {a : Addr} (h : A a) : cutH H A a = none := by unfold cutH; exact if_pos h
theorem cutH_no {H : Hp} {A : Addr → Prop} {a : Addr} (h : ¬ A a) : cutH H A a = H a := by unfold cutH; exact if_neg h
theorem EnvOk.lose (E : EnvOk B K F H σ ρ) {j : Nat} (np : ∀ a, B.pin ≠ some (j, a)) : EnvOk B K F (cutH H (SFp σ ρ j)) σ (ρ.set j none) := by
  have fpo : ∀ i a, SFp σ (ρ.set j none) i a → i ≠ j ∧ SFp σ ρ i a := fun i a ⟨m, u, e1, e2, e3⟩ => by
    obtain ⟨n, q⟩ := set_none e1
    exact ⟨n, m, u, q, e2, e3⟩
  have mine : ∀ a, SFp σ ρ j a → B.H0 a = none := fun a h => (E.mine j a h).elim id fun z => absurd z (np a)
  refine ⟨⟨E.st.f0, fun a o e => ?_, fun a o e n => ?_, fun a h => ?_, E.st.nf⟩, by rw [List.length_set]; exact E.len, fun i l e => ?_, fun i k a e1 e2 => E.sep i k a (fpo _ _ e1).2 (fpo _ _ e2).2, fun i a e => E.mine i a (fpo _ _ e).2, fun i a e => ?_⟩
  · rw [cutH_no fun z => by rw [(E.live z).1] at e; cases e]; exact E.fh a o e
  · rw [cutH_no fun z => by rw [mine a z] at e; cases e]; exact E.st.h0 a o e n
  · rw [cutH_no fun z => h (mine a z)]; exact E.st.th a h
  · obtain ⟨n, q⟩ := set_none e
    obtain ⟨v, e1, s⟩ := E.sl i l q
    refine ⟨v, e1, s.mono (Ex.refl F) fun a ha => ?_⟩
    have h := (⟨l, v, q, e1, ha⟩ : SFp σ ρ i a)
    exact ⟨(E.live h).1, cutH_no fun z => n (E.sep i j a h z)⟩
  · have hj : i ≠ j := fun z => by subst z; exact np a e
    rw [List.getElem?_set_ne (Ne.symm hj)]
    exact E.pin i a e
/-- a callee takes over what slot j owns -/
theorem we_callC {G : GF} {E : XK} (h : WA B K ta ρ fun as ρ1 => ∃ pre post j l l1 l2 Pe, as = pre ++ .own j :: post ∧ ρ1[j]? = some (some l) ∧ (∀ a, B.pin ≠ some (j, a)) ∧ argL pre = some l1 ∧ argL post = some l2 ∧ G (l1 ++ l :: l2) (fun r _ => Q r (ρ1.set j none)) Pe ∧ ∀ C, Pe C → EK B K E C) :
    WE B K (tCall (SpG K none G) [] E ta) ρ Q := fun F H σ E0 QQ k =>
  h F H σ E0 _ fun vs as F1 H1 ρ1 E1 e1 av ⟨pre, post, j, l, l1, l2, Pe, ea, hj, np, hl1, hl2, hG, hE⟩ => by
    show SpG K none G (vs ++ []) H1 QQ E
    rw [List.append_nil]
    subst ea
    obtain ⟨us, ws, rfl, hu, au, aw⟩ := av.split
    cases aw with
    | @cons v ws a as hv aw =>
    obtain ⟨v', ha, sv⟩ := E1.sl j l hj
    rw [show σ[j]? = some (some v) from hv] at ha
    cases ha
    obtain ⟨n1, s1⟩ := args_sl (H := H1) au hl1
    obtain ⟨n2, s2⟩ := args_sl (H := H1) aw hl2
    have E2 := E1.lose np
    have A := args_own (H0 := cutH H1 (SFp σ ρ1 j)) (pin := none) (v := v) (l := l) rfl E1.fh (fun b o e => by
        by_cases c : SFp σ ρ1 j b
        · rw [cutH_yes c] at e; cases e
        · rw [cutH_no c] at e; exact e) n1 s1 n2 s2 sv (fun b hb => .inl (cutH_yes ⟨l, v, hj, hv, hb⟩)) (fun i b e => nomatch e)
    refine ⟨F1, cutH H1 (SFp σ ρ1 j), l1 ++ l :: l2, fun r _ => Q r (ρ1.set j none), Pe, ⟨A, rfl⟩, hG, fun v r F' H' ys st rv _ q => ?_, fun C F' H' ys st _ hC => hE C hC F' H' σ _ (E2.step st.stp)⟩
    have E3 := E2.step st.stp
    exact k v r F' H' _ E3 (e1.trans st.f0) (ret_ok E3 E2.fr2 rv) q
/-! ### raise -/
def tRaiseE (E : XK) (C : Addr) : TS := fun _ _ H => E (.ref C) none H
theorem ws_raise {E : XK} {C : Addr} {Z : Zs} (h : EK B K E C) : WS B K (tRaiseE E C) ρ Z := fun F H σ E0 D ok => h F H σ ρ E0
end
theorem p_raise {X : Cx} {E : XK} {C : Addr} {e : Expr} {pos : Pos} (tk : Takes X (fun cls d _ H => E cls d H)) (mk : PMk X e (fun _ H Q => Q (.ref C) none H)) (hc : X.calm = true := by rfl) : PS X (.Raise (some e) none pos) (tRaiseE E C) := ps_raise hc tk mk
end SV

set_option maxHeartbeats 1000000
namespace SV
open PySem PySem.Spec L2
open Evl (Ex)

abbrev rJoin (K : Fr) : V → List V → Hp → VK → Prop := fun x xs H Q => ∃ a p, ∃ ys : List Str, x = .str a ∧ xs = [.ref p] ∧ (SqL K H p (ys.map V.str) ∨ SqT K H p (ys.map V.str)) ∧ (ys.map (·.length)).sum + ys.length * a.length ≤ 16777216 ∧ Q (.str (Txt.join a ys)) H
/-! ### rules that the terms name -/
section
variable {X : Cx}
theorem ps_setO {i : Nat} {x : Str} {e : Expr} {te : TE} {pos pos' : Pos} (hN : X.N.Nodup) (hi : X.N[i]? = some x) (hx : Loc X.env.scope x) (he : PE X e te) (hs : swapsWith e (some (.Name x pos')) pos.line X.env = pure false := by rfl)
    (hf : X.fn x = true ∨ X.env.scope.names.lookup x = some .local := by first | exact .inl rfl | exact .inr rfl | assumption) : PS X (.Assign [.Name x pos'] e pos) (tAsgO te i) := ps_set hN hi hx he hs hf
end
/-! the rules, by the fragment that is named -/
section
variable {X : Cx} (K : Fr) (h : X.K = K := by rfl)
include h
theorem k_plus : OpR X (binaryOp .Add) (rPlus K) := h ▸ op_plus
theorem k_eqD (hu : X.A.units + 64 < cLine) : OpR X (compareOp .Eq) (rEqD K) := h ▸ op_eqD hu
theorem k_neD (hu : X.A.units + 64 < cLine) : OpR X (compareOp .NotEq) (rNeD K) := h ▸ op_neD hu
theorem k_inSeq : OpR X (compareOp .In) (rIn K false) := h ▸ op_in_seq
theorem k_niSeq : OpR X (compareOp .NotIn) (rIn K true) := h ▸ op_notIn_seq
theorem k_ix : IxR X (rIx K) := h ▸ ix_seq
theorem k_sl : SlR X (rSlAny K) := h ▸ sl_any
theorem k_len : CallR X (.builtin "len") (rLen K) := h ▸ call_len
theorem k_isi : CallR X (.builtin "isinstance") (rIsi K) := h ▸ call_isi
theorem k_isiT : CallR X (.builtin "isinstance") (rIsiT K) := h ▸ call_isiT
theorem k_max (hc : X.calm = true) : CallR X (.builtin "max") (rMax K) := h ▸ cr_max hc
theorem k_min (hc : X.calm = true) : CallR X (.builtin "min") (rMin K) := h ▸ cr_min hc
theorem k_sum (hc : X.calm = true) : CallR X (.builtin "sum") (rSum K) := h ▸ cr_sum hc
theorem k_all (hc : X.calm = true) : CallR X (.builtin "all") (rAll K) := h ▸ cr_all hc
theorem k_any (hc : X.calm = true) : CallR X (.builtin "any") (rAny K) := h ▸ cr_any hc
theorem k_listOf : CallR X (.type "list") (rListOf K) := h ▸ call_list_of
theorem k_tupOf : CallR X (.type "tuple") (rTupOf K) := h ▸ call_tuple_of
theorem k_piL {tg l : Expr} {tl : TE} (hl : PE X l tl) : PI X tg l (iList K tl) := h ▸ pi_list hl
theorem k_piT {tg l : Expr} {tl : TE} (hl : PE X l tl) : PI X tg l (iTup K tl) := h ▸ pi_tup hl
theorem k_gTup {es : List Expr} {k : Nat} {pos : Pos} {t : TGs} {n : Nat} (hc : X.calm = true) (hg : PGs X es t) (hn : (assignEach es X.env).length = n := by rfl) (hst : (assignEach es X.env).findIdx? (·.1) = none := by rfl) : PG X (.Tuple es k pos) (gTup K n t) := h ▸ pg_tup hc hg hn hst
theorem k_bm0 {o : Expr} {to : TE} {name : Str} {apos cpos : Pos} {T id : String} {r : V → List V → Hp → VK → Prop} (pa : PlainAttrs T) (slot : Slot T name id) (hty : typeOf (.builtin id) = pure (.type "method_descriptor")) (hm : MtR X id r) (ho : PE X o to)
    (hbase : attributeBase o name X.env (eval o X.env) = eval o X.env := by rfl) (hline : (apos.endLine == cpos.line) = true := by rfl) : PE X (.Call (.Attribute o name apos) [] [] cpos) (tBM0 K T r to) := h ▸ pe_bm0 pa slot hty hm ho hbase hline
theorem k_bm {o e : Expr} {es : List Expr} {to : TE} {t : TA} {name : Str} {apos cpos : Pos} {T id : String} {r : V → List V → Hp → VK → Prop} (pa : PlainAttrs T) (slot : Slot T name id) (hty : typeOf (.builtin id) = pure (.type "method_descriptor")) (hm : MtR X id r) (ho : PE X o to) (ha : PA X (e :: es) t)
    (hbase : attributeBase o name X.env (eval o X.env) = eval o X.env := by rfl)
    (hfew : ((backTo cpos (starEach (e :: es) X.env)).all (fun x => !x.1) && (backToKw cpos (keywordEach [] X.env)).all (fun x => x.1.isSome) && decide ((e :: es).length + ([] : List Keyword).length + (if ([] : List Keyword).isEmpty then 0 else 1) < 30)) = true := by rfl)
    (hline : (apos.endLine == cpos.line) = true := by rfl) (hs : starEach (e :: es) X.env = (false, eval e X.env) :: starEach es X.env := by rfl) (hplain : (backTo cpos (starEach es X.env)).any (·.1) = false := by rfl) :
    PE X (.Call (.Attribute o name apos) (e :: es) [] cpos) (tBM K T r to t) := h ▸ pe_bm pa slot hty hm ho ha hbase hfew hline hs hplain
theorem k_join {o e : Expr} {to te : TE} {apos pos : Pos} (ho : PE X o to) (he : PE X e te) (hs : starEach [e] X.env = [(false, eval e X.env)] := by rfl) (hbase : attributeBase o "join" X.env (eval o X.env) = eval o X.env := by rfl) (hline : (apos.endLine == pos.line) = true := by rfl) :
    PE X (.Call (.Attribute o "join" apos) [e] [] pos) (tM1 (rJoin K) to te) := h ▸ pe_join ho he hs hbase hline
end
/-! ### forks -/
section
variable {p : Prop} [Decidable p] {A B : Prop} {b : Bool}
theorem fk_dec (h1 : p → A) (h2 : ¬ p → B) : (decide p = true → A) ∧ (decide p = false → B) := ⟨fun h => h1 (of_decide_eq_true h), fun h => h2 (of_decide_eq_false h)⟩
theorem fk_not (h : (b = true → B) ∧ (b = false → A)) : ((!b) = true → A) ∧ ((!b) = false → B) := ⟨fun e => h.2 (by cases b <;> simp_all), fun e => h.1 (by cases b <;> simp_all)⟩
theorem fk_int {i j : Int} (h1 : i = j → A) (h2 : i ≠ j → B) : (PyData.eqv (.int i) (.int j) = true → A) ∧ (PyData.eqv (.int i) (.int j) = false → B) := by
  unfold PyData.eqv
  exact ⟨fun h => h1 (beq_iff_eq.mp h), fun h => h2 fun e => by rw [e, beq_self_eq_true] at h; cases h⟩
theorem fk_str {i j : Str} (h1 : i = j → A) (h2 : i ≠ j → B) : (PyData.eqv (.str i) (.str j) = true → A) ∧ (PyData.eqv (.str i) (.str j) = false → B) := by
  unfold PyData.eqv
  exact ⟨fun h => h1 (beq_iff_eq.mp h), fun h => h2 fun e => by rw [e, beq_self_eq_true] at h; cases h⟩
theorem fk_nil {xs : List PyData} (h1 : xs = [] → A) (h2 : xs ≠ [] → B) : (PyData.eqv (.list xs) (.list []) = true → A) ∧ (PyData.eqv (.list xs) (.list []) = false → B) := by
  cases xs with
  | nil => exact ⟨fun _ => h1 rfl, fun h => by simp [PyData.eqv, PyData.eqvAll] at h⟩
  | cons x xs => exact ⟨fun h => by simp [PyData.eqv, PyData.eqvAll] at h, fun _ => h2 fun z => nomatch z⟩
theorem fk_t (h : A) : (true = true → A) ∧ (true = false → B) := ⟨fun _ => h, (fun z => nomatch z)⟩
theorem fk_f (h : B) : (false = true → A) ∧ (false = false → B) := ⟨(fun z => nomatch z), fun _ => h⟩
end
/-! ### data that == may be asked of -/
inductive OkD : Nat → PyData → Prop
  | int {n : Nat} (i : Int) : OkD n (.int i)
  | bool {n : Nat} (b : Bool) : OkD n (.bool b)
  | none {n : Nat} : OkD n .none
  | str {n : Nat} {s : Str} : PyData.strOk s = true → OkD n (.str s)
  | list {n : Nat} {xs : List PyData} : (∀ x, x ∈ xs → OkD n x) → OkD (n + 1) (.list xs)
  | tuple {n : Nat} {xs : List PyData} : (∀ x, x ∈ xs → OkD n x) → OkD (n + 1) (.tuple xs)
theorem noDs_of {xs : List PyData} (h : ∀ x, x ∈ xs → noD x = true) : noDs xs = true := by
  induction xs with
  | nil => rfl
  | cons x xs ih =>
    unfold noDs
    rw [h x List.mem_cons_self, ih fun y hy => h y (List.mem_cons_of_mem _ hy)]
    rfl
theorem lays_of {xs : List PyData} (h : ∀ x, x ∈ xs → x.canLay0 = true) : PyData.canLayAll0 xs = true := by
  induction xs with
  | nil => rfl
  | cons x xs ih =>
    unfold PyData.canLayAll0
    rw [h x List.mem_cons_self, ih fun y hy => h y (List.mem_cons_of_mem _ hy)]
    rfl
theorem depths_of {n : Nat} {xs : List PyData} (h : ∀ x, x ∈ xs → x.depth ≤ n) : PyData.depthAll xs ≤ n := by
  induction xs with
  | nil => exact Nat.zero_le _
  | cons x xs ih =>
    unfold PyData.depthAll
    exact Nat.max_le.mpr ⟨h x List.mem_cons_self, ih fun y hy => h y (List.mem_cons_of_mem _ hy)⟩
theorem OkD.all {n : Nat} {x : PyData} (h : OkD n x) : noD x = true ∧ x.canLay0 = true ∧ x.depth ≤ n := by
  induction h with
  | int i => exact ⟨rfl, by unfold PyData.canLay0; rfl, by unfold PyData.depth; exact Nat.zero_le _⟩
  | bool i => exact ⟨rfl, by unfold PyData.canLay0; rfl, by unfold PyData.depth; exact Nat.zero_le _⟩
  | none => exact ⟨rfl, by unfold PyData.canLay0; rfl, by unfold PyData.depth; exact Nat.zero_le _⟩
  | str s => exact ⟨rfl, by unfold PyData.canLay0; exact s, by unfold PyData.depth; exact Nat.zero_le _⟩
  | list _ ih => exact ⟨noDs_of fun x hx => (ih x hx).1, by unfold PyData.canLay0; exact lays_of fun x hx => (ih x hx).2.1, by unfold PyData.depth; exact Nat.succ_le_succ (depths_of fun x hx => (ih x hx).2.2)⟩
  | tuple _ ih => exact ⟨noDs_of fun x hx => (ih x hx).1, by unfold PyData.canLay0; exact lays_of fun x hx => (ih x hx).2.1, by unfold PyData.depth; exact Nat.succ_le_succ (depths_of fun x hx => (ih x hx).2.2)⟩
theorem OkD.sh {n : Nat} {x : PyData} (h : OkD n x) (hn : n ≤ 64) : SeqAt.shaped x = true := by
  unfold SeqAt.shaped
  rw [h.all.2.1, decide_eq_true (Nat.le_trans h.all.2.2 hn)]
  rfl
theorem ok2 {x y : PyData} (hx : OkD 60 x) (hy : OkD 60 y) : noD x = true ∧ noD y = true ∧ SeqAt.shaped x = true ∧ SeqAt.shaped y = true := ⟨hx.all.1, hy.all.1, hx.sh (by decide), hy.sh (by decide)⟩
theorem ok2O {xs : List PyData} {y : PyData} (hx : OkD 60 (.list xs)) (hy : OkD 60 y) : noDs xs = true ∧ noD y = true ∧ SeqAt.shaped (.list xs) = true ∧ SeqAt.shaped y = true := ⟨by have := hx.all.1; unfold noD at this; exact this, hy.all.1, hx.sh (by decide), hy.sh (by decide)⟩
theorem OkD.nil {n : Nat} : OkD (n + 1) (.list []) := .list fun _ h => nomatch h
theorem OkD.ints {n : Nat} (ns : List Int) : OkD (n + 1) (.list (ns.map .int)) := .list fun x hx => by
  obtain ⟨i, _, rfl⟩ := List.mem_map.mp hx
  exact .int i
theorem OkD.strs {n : Nat} {ws : List Str} (h : ∀ w, w ∈ ws → PyData.strOk w = true) : OkD (n + 1) (.list (ws.map .str)) := .list fun x hx => by
  obtain ⟨i, hi, rfl⟩ := List.mem_map.mp hx
  exact .str (h i hi)
/-! ### == of data, where no truths stand among numbers -/
mutual
def noB : PyData → Bool
  | .bool _ => false
  | .dict _ => false
  | .list xs => noBs xs
  | .tuple xs => noBs xs
  | _ => true
def noBs : List PyData → Bool
  | [] => true
  | x :: xs => noB x && noBs xs
end
mutual
theorem eqv_iff : ∀ {x y : PyData}, noB x = true → noB y = true → (PyData.eqv x y = true ↔ x = y)
  | .none, y, _, h => by cases y <;> simp [PyData.eqv]
  | .bool _, _, h, _ => by simp [noB] at h
  | .dict _, _, h, _ => by simp [noB] at h
  | .int i, y, _, h => by cases y <;> simp [PyData.eqv, noB] at h ⊢
  | .str i, y, _, h => by cases y <;> simp [PyData.eqv] at h ⊢
  | .list xs, .list ys, h1, h2 => by
    unfold noB at h1 h2
    unfold PyData.eqv
    rw [eqvAll_iff h1 h2]
    exact ⟨fun e => by rw [e], fun e => by cases e; rfl⟩
  | .tuple xs, .tuple ys, h1, h2 => by
    unfold noB at h1 h2
    unfold PyData.eqv
    rw [eqvAll_iff h1 h2]
    exact ⟨fun e => by rw [e], fun e => by cases e; rfl⟩
  | .list xs, .none, _, _ => by simp [PyData.eqv]
  | .list xs, .bool _, _, h => by simp [noB] at h
  | .list xs, .dict _, _, h => by simp [noB] at h
  | .list xs, .int _, _, _ => by simp [PyData.eqv]
  | .list xs, .str _, _, _ => by simp [PyData.eqv]
  | .list xs, .tuple _, _, _ => by simp [PyData.eqv]
  | .tuple xs, .none, _, _ => by simp [PyData.eqv]
  | .tuple xs, .bool _, _, h => by simp [noB] at h
  | .tuple xs, .dict _, _, h => by simp [noB] at h
  | .tuple xs, .int _, _, _ => by simp [PyData.eqv]
  | .tuple xs, .str _, _, _ => by simp [PyData.eqv]
  | .tuple xs, .list _, _, _ => by simp [PyData.eqv]
theorem eqvAll_iff : ∀ {xs ys : List PyData}, noBs xs = true → noBs ys = true → (PyData.eqvAll xs ys = true ↔ xs = ys)
  | [], [], _, _ => by simp [PyData.eqvAll]
  | [], _ :: _, _, _ => by simp [PyData.eqvAll]
  | _ :: _, [], _, _ => by simp [PyData.eqvAll]
  | x :: xs, y :: ys, h1, h2 => by
    unfold noBs at h1 h2
    rw [Bool.and_eq_true] at h1 h2
    unfold PyData.eqvAll
    rw [Bool.and_eq_true, eqv_iff h1.1 h2.1, eqvAll_iff h1.2 h2.2]
    exact ⟨fun ⟨a, b⟩ => by rw [a, b], fun e => by cases e; exact ⟨rfl, rfl⟩⟩
end
theorem noBs_of {xs : List PyData} (h : ∀ x, x ∈ xs → noB x = true) : noBs xs = true := by
  induction xs with
  | nil => rfl
  | cons x xs ih =>
    unfold noBs
    rw [h x List.mem_cons_self, ih fun y hy => h y (List.mem_cons_of_mem _ hy)]
    rfl
theorem noB_ints (ns : List Int) : noB (.list (ns.map .int)) = true := by
  unfold noB
  exact noBs_of fun x hx => by obtain ⟨i, _, rfl⟩ := List.mem_map.mp hx; rfl
theorem noB_strs (ns : List Str) : noB (.list (ns.map .str)) = true := by
  unfold noB
  exact noBs_of fun x hx => by obtain ⟨i, _, rfl⟩ := List.mem_map.mp hx; rfl
/-- == of like data, as a fork -/
theorem fk_eqv {x y : PyData} {A B : Prop} (hx : noB x = true) (hy : noB y = true) (h1 : x = y → A) (h2 : x ≠ y → B) : (PyData.eqv x y = true → A) ∧ (PyData.eqv x y = false → B) :=
  ⟨fun h => h1 ((eqv_iff hx hy).mp h), fun h => h2 fun e => by rw [(eqv_iff hx hy).mpr e] at h; cases h⟩
/-! ### + and subscripts, by the values -/
theorem plus_int {i j : Int} {k : R → Prop} (h : k (.d (.int (i + j)))) : Plus (.int i) (.int j) k := h
theorem plus_str {s t : Str} {k : R → Prop} (h1 : s.length + t.length ≤ lim) (h : k (.d (.str (s ++ t)))) : Plus (.str s) (.str t) k := ⟨h1, h⟩
theorem plus_list {xs ys : List PyData} {k : R → Prop} (h1 : xs.length + ys.length ≤ lim) (h : k (.new (xs ++ ys))) : Plus (.list xs) (.list ys) k := ⟨h1, h⟩
theorem wd_plusI {B : Bs} {K : Fr} {ρ : En} {ta tb : TE} {QD : PyData → En → Prop} (h : WD B K ta ρ fun x ρ1 => ∃ i, x = .int i ∧ WD B K tb ρ1 fun y ρ2 => ∃ j, y = .int j ∧ QD (.int (i + j)) ρ2) : WD B K (tOp (rPlus K) ta tb) ρ QD :=
  wd_e (we_plus (wd_mono h fun x ρ1 ⟨i, hx, h2⟩ => by
    subst hx
    exact wd_mono h2 fun y ρ2 ⟨j, hy, q⟩ => by
      subst hy
      exact plus_int ⟨_, rfl, q⟩))
theorem len_map {α : Type} {f : α → PyData} {as : List α} {k : Int → Prop} (h : k as.length) : Len (.list (as.map f)) k := by
  show k (as.map f).length
  rw [List.length_map]
  exact h
theorem len_mapT {α : Type} {f : α → PyData} {as : List α} {k : Int → Prop} (h : k as.length) : Len (.tuple (as.map f)) k := by
  show k (as.map f).length
  rw [List.length_map]
  exact h
theorem len_list {xs : List PyData} {k : Int → Prop} (h : k xs.length) : Len (.list xs) k := h
theorem len_tup {xs : List PyData} {k : Int → Prop} (h : k xs.length) : Len (.tuple xs) k := h
theorem atI_map {α β : Type} {f : α → β} {xs : List α} {i : Int} {x : α} (h : atI xs i = some x) : atI (xs.map f) i = some (f x) := by
  unfold atI at h ⊢
  rw [List.length_map]
  cases e : ixN xs.length i with
  | none => rw [e] at h; cases h
  | some j =>
    rw [e] at h
    show (xs.map f)[j]? = _
    rw [List.getElem?_map, show xs[j]? = some x from h]
    rfl
theorem idx_map {α : Type} {f : α → PyData} {xs : List α} {i : Int} {x : α} {k : PyData → Prop} (h : atI xs i = some x) (q : k (f x)) : Idx (.list (xs.map f)) (.int i) k := ⟨_, atI_map h, q⟩
theorem idx_mapT {α : Type} {f : α → PyData} {xs : List α} {i : Int} {x : α} {k : PyData → Prop} (h : atI xs i = some x) (q : k (f x)) : Idx (.tuple (xs.map f)) (.int i) k := ⟨_, atI_map h, q⟩
theorem atI_pos {α : Type} {xs : List α} {i : Int} {n : Nat} (e : i = (n : Int)) (h : n < xs.length) : atI xs i = some xs[n] := by
  subst e
  exact atI_nat (List.getElem?_eq_getElem h)
theorem idx_list {xs : List PyData} {i : Int} {d : PyData} {k : PyData → Prop} (h : atI xs i = some d) (q : k d) : Idx (.list xs) (.int i) k := ⟨d, h, q⟩
theorem idx_tup {xs : List PyData} {i : Int} {d : PyData} {k : PyData → Prop} (h : atI xs i = some d) (q : k d) : Idx (.tuple xs) (.int i) k := ⟨d, h, q⟩
theorem idx_str {z : Str} {i : Int} {c : Nat} {k : PyData → Prop} (hz : z.length ≤ lim) (h : atI z.cps.toList i = some c) (q : k (.str ⟨#[c]⟩)) : Idx (.str z) (.int i) k := ⟨hz, c, h, q⟩
/-! ### an own list is given away, or frozen where it stands -/
/-- a slot's own thing is given away -/
theorem EnvOk.giveL {B : Bs} {K : Fr} {F H : Hp} {σ : L2.St} {ρ : En} (E : EnvOk B K F H σ ρ) {j : Nat} {l : L} (hj : ρ[j]? = some (some l)) (np : NP B j) :
    ∃ v, σ[j]? = some (some v) ∧ EnvOk B K F H σ (ρ.set j none) ∧ SlotOk K F H v l ∧ ∀ a, LFp v l a → B.H0 a = none ∧ ∀ i, ¬ SFp σ (ρ.set j none) i a := by
  obtain ⟨v, e, s⟩ := E.sl j l hj
  refine ⟨v, e, E.weak (List.length_set ..) (fun i l h => (set_none h).2) fun i b hb => ?_, s, fun a ha => ⟨?_, fun i ⟨m, w, q1, q2, q3⟩ => ?_⟩⟩
  · have : i ≠ j := fun z => by subst z; exact np b hb
    rw [List.getElem?_set_ne (Ne.symm this)]
  · exact (E.mine j a ⟨l, v, hj, e, ha⟩).elim id fun h => absurd h (np a)
  · obtain ⟨n, q⟩ := set_none q1
    exact n (E.sep i j a ⟨m, w, q, q2, q3⟩ ⟨l, v, hj, e, ha⟩)
theorem EnvOk.give {B : Bs} {K : Fr} {F H : Hp} {σ : L2.St} {ρ : En} (E : EnvOk B K F H σ ρ) {j : Nat} {xs : List PyData} (hj : ρ[j]? = some (some (.own xs))) (np : NP B j) :
    ∃ v, σ[j]? = some (some v) ∧ EnvOk B K F H σ (ρ.set j none) ∧ ROk B K F H σ (ρ.set j none) v (.new xs) := by
  obtain ⟨v, e, E', ⟨a, vs, rfl, k1, k2, k3⟩, hf⟩ := E.giveL hj np
  exact ⟨_, e, E', a, vs, rfl, k1, k2, k3, (hf a rfl).1, (hf a rfl).2⟩
theorem EnvOk.giveT {B : Bs} {K : Fr} {F H : Hp} {σ : L2.St} {ρ : En} (E : EnvOk B K F H σ ρ) {j : Nat} {t : OT} (hj : ρ[j]? = some (some (.deep t))) (np : NP B j) :
    ∃ v, σ[j]? = some (some v) ∧ EnvOk B K F H σ (ρ.set j none) ∧ ROk B K F H σ (ρ.set j none) v (.deep t) := by
  obtain ⟨v, e, E', s, hf⟩ := E.giveL hj np
  exact ⟨_, e, E', s.1, s.2, fun a ha => hf a ha⟩
theorem EnvOk.giveD {B : Bs} {K : Fr} {F H : Hp} {σ : L2.St} {ρ : En} (E : EnvOk B K F H σ ρ) {j : Nat} {ks : List Key} {xs : List PyData} (hj : ρ[j]? = some (some (.ownD ks xs))) (np : NP B j) :
    ∃ v, σ[j]? = some (some v) ∧ EnvOk B K F H σ (ρ.set j none) ∧ ROk B K F H σ (ρ.set j none) v (.newD ks xs) := by
  obtain ⟨v, e, E', ⟨a, vs, rfl, k1, k2, hl, k3⟩, hf⟩ := E.giveL hj np
  exact ⟨_, e, E', a, vs, rfl, k1, k2, hl, k3, (hf a rfl).1, (hf a rfl).2⟩
theorem we_take {B : Bs} {K : Fr} {ρ : En} {Q : R → En → Prop} {j : Nat} {xs : List PyData} (hj : ρ[j]? = some (some (.own xs))) (np : NP B j) (q : Q (.new xs) (ρ.set j none)) : WE B K (tVar j) ρ Q := fun F H σ E QQ k => by
  obtain ⟨v, e, E', r⟩ := E.give hj np
  exact ⟨v, e, k v (.new xs) F H _ E' (Ex.refl F) r q⟩
theorem ws_retO {B : Bs} {K : Fr} {ρ : En} {Z : Zs} {j : Nat} {xs : List PyData} (hj : ρ[j]? = some (some (.own xs))) (np : NP B j) (q : Z.rt (.new xs) (ρ.set j none)) : WS B K (tRet (tVar j)) ρ Z := ws_ret (we_take hj np q)
theorem wd_frz {B : Bs} {K : Fr} {ρ : En} {QD : PyData → En → Prop} {j : Nat} {xs : List PyData} (hj : ρ[j]? = some (some (.own xs))) (np : NP B j) (q : QD (.list xs) (ρ.set j (some (.d (.list xs))))) : WD B K (tVar j) ρ QD := fun F H σ E QQ k => by
  obtain ⟨v, e, E', r⟩ := E.give hj np
  obtain ⟨F', E2, e2, r2⟩ := E'.asD (r := .new xs) r rfl
  refine ⟨v, e, k v (.list xs) F' H _ ?_ e2 r2 q⟩
  have E3 := E2.setD (i := j) (l := .d (.list xs)) r2 rfl np
  have hl : j < σ.length := (List.getElem?_eq_some_iff.mp e).1
  have e3 : σ.set j (some v) = σ := by
    refine List.ext_getElem? fun i => ?_
    by_cases c : i = j
    · subst c; rw [List.getElem?_set_self hl, e]
    · rw [List.getElem?_set_ne (Ne.symm c)]
  rw [e3, List.set_set] at E3
  exact E3
theorem we_takeT {B : Bs} {K : Fr} {ρ : En} {Q : R → En → Prop} {j : Nat} {t : OT} (hj : ρ[j]? = some (some (.deep t))) (np : NP B j) (q : Q (.deep t) (ρ.set j none)) : WE B K (tVar j) ρ Q := fun F H σ E QQ k => by
  obtain ⟨v, e, E', r⟩ := E.giveT hj np
  exact ⟨v, e, k v (.deep t) F H _ E' (Ex.refl F) r q⟩
theorem we_takeD {B : Bs} {K : Fr} {ρ : En} {Q : R → En → Prop} {j : Nat} {ks : List Key} {xs : List PyData} (hj : ρ[j]? = some (some (.ownD ks xs))) (np : NP B j) (q : Q (.newD ks xs) (ρ.set j none)) : WE B K (tVar j) ρ Q := fun F H σ E QQ k => by
  obtain ⟨v, e, E', r⟩ := E.giveD hj np
  exact ⟨v, e, k v (.newD ks xs) F H _ E' (Ex.refl F) r q⟩
theorem ws_retT {B : Bs} {K : Fr} {ρ : En} {Z : Zs} {j : Nat} {t : OT} (hj : ρ[j]? = some (some (.deep t))) (np : NP B j) (q : Z.rt (.deep t) (ρ.set j none)) : WS B K (tRet (tVar j)) ρ Z := ws_ret (we_takeT hj np q)
theorem ws_retD {B : Bs} {K : Fr} {ρ : En} {Z : Zs} {j : Nat} {ks : List Key} {xs : List PyData} (hj : ρ[j]? = some (some (.ownD ks xs))) (np : NP B j) (q : Z.rt (.newD ks xs) (ρ.set j none)) : WS B K (tRet (tVar j)) ρ Z := ws_ret (we_takeD hj np q)
theorem wd_frzT {B : Bs} {K : Fr} {ρ : En} {QD : PyData → En → Prop} {j : Nat} {t : OT} (hj : ρ[j]? = some (some (.deep t))) (np : NP B j) (hd : t.isD = true) (q : QD t.data (ρ.set j (some (.d t.data)))) : WD B K (tVar j) ρ QD := fun F H σ E QQ k => by
  obtain ⟨v, e, E', r⟩ := E.giveT hj np
  obtain ⟨F', E2, e2, r2⟩ := E'.asD (r := .deep t) (x := t.data) r (by unfold R.toD; simp only [hd, if_true])
  refine ⟨v, e, k v _ F' H _ ?_ e2 r2 q⟩
  have E3 := E2.setD (i := j) (l := .d t.data) r2 rfl np
  have hl : j < σ.length := (List.getElem?_eq_some_iff.mp e).1
  have e3 : σ.set j (some v) = σ := by
    refine List.ext_getElem? fun i => ?_
    by_cases c : i = j
    · subst c; rw [List.getElem?_set_self hl, e]
    · rw [List.getElem?_set_ne (Ne.symm c)]
  rw [e3, List.set_set] at E3
  exact E3
theorem wt_yes {B : Bs} {K : Fr} {ρ : En} {QT : Bool → En → Prop} (h : QT true ρ) : WT B K tYes ρ QT := fun F H σ E QQ k => k true F H ρ E (Ex.refl F) h
/-! ### % and // by a number above 0 -/
theorem wd_modP {B : Bs} {K : Fr} {ρ : En} {ta tb : TE} {QD : PyData → En → Prop} (h : WD B K ta ρ fun x ρ1 => ∃ i, x = .int i ∧ WD B K tb ρ1 fun y ρ2 => ∃ j, y = .int j ∧ 0 < j ∧ QD (.int (i % j)) ρ2) : WD B K (tOp (rI (fun _ j => j ≠ 0) fun i j => .int (i.fmod j)) ta tb) ρ QD :=
  wd_iop (C := fun _ j => j ≠ 0) (g := fun i j => i.fmod j) (wd_mono h fun x ρ1 ⟨i, hx, h2⟩ => ⟨i, hx, wd_mono h2 fun y ρ2 ⟨j, hy, hj, q⟩ => ⟨j, hy, Int.ne_of_gt hj, by rw [Int.fmod_eq_emod_of_nonneg i (Int.le_of_lt hj)]; exact q⟩⟩)
theorem wd_divP {B : Bs} {K : Fr} {ρ : En} {ta tb : TE} {QD : PyData → En → Prop} (h : WD B K ta ρ fun x ρ1 => ∃ i, x = .int i ∧ WD B K tb ρ1 fun y ρ2 => ∃ j, y = .int j ∧ (0 < j ∧ j < 1073741824) ∧ QD (.int (i / j)) ρ2) : WD B K (tOp (rI CDivN fun i j => .int (i.fdiv j)) ta tb) ρ QD :=
  wd_iop (C := CDivN) (g := fun i j => i.fdiv j) (wd_mono h fun x ρ1 ⟨i, hx, h2⟩ => ⟨i, hx, wd_mono h2 fun y ρ2 ⟨j, hy, hj, q⟩ => ⟨j, hy, ⟨Int.ne_of_gt hj.1, by omega⟩, by rw [Int.fdiv_eq_ediv_of_nonneg i (Int.le_of_lt hj.1)]; exact q⟩⟩)
theorem wd_mulP {B : Bs} {K : Fr} {ρ : En} {ta tb : TE} {QD : PyData → En → Prop} (h : WD B K ta ρ fun x ρ1 => ∃ i, x = .int i ∧ WD B K tb ρ1 fun y ρ2 => ∃ j, y = .int j ∧ CMul i j ∧ QD (.int (i * j)) ρ2) : WD B K (tOp (rI CMul fun i j => .int (i * j)) ta tb) ρ QD :=
  wd_iop (C := CMul) (g := fun i j => i * j) h
/-! ### sep.join(xs) -/
theorem wd_join {B : Bs} {K : Fr} {ρ : En} {ta tb : TE} {QD : PyData → En → Prop} (h : WD B K ta ρ fun x ρ1 => ∃ a, x = .str a ∧ WD B K tb ρ1 fun y ρ2 => ∃ ys : List Str, y = .list (ys.map .str) ∧ (ys.map (·.length)).sum + ys.length * a.length ≤ 16777216 ∧ QD (.str (Txt.join a ys)) ρ2) : WD B K (tM1 (rJoin K) ta tb) ρ QD := fun F H σ E QQ k =>
  h F H σ E _ fun v x F1 H1 ρ1 E1 e1 rv ⟨a, hx, q⟩ => by
    subst hx
    cases rv
    refine ⟨⟨a, rfl⟩, q F1 H1 σ E1 _ fun u y F2 H2 ρ2 E2 e2 ru ⟨ys, hy, hz, q2⟩ => ?_⟩
    subst hy
    cases ru with
    | @lst p vs xs hp ra =>
    have e := ra.strs
    subst e
    exact ⟨a, p, ys, rfl, rfl, .inl (.inl (.inl (E2.fh _ _ hp))), hz, k _ _ F2 H2 ρ2 E2 (e1.trans e2) (.str _) q2⟩
theorem wd_joinO {B : Bs} {K : Fr} {ρ : En} {a : Str} {j : Nat} {ys : List Str} {QD : PyData → En → Prop} (hj : ρ[j]? = some (some (.own (ys.map .str)))) (hz : (ys.map (·.length)).sum + ys.length * a.length ≤ 16777216) (q : QD (.str (Txt.join a ys)) ρ) : WD B K (tM1 (rJoin K) (tC (.str a)) (tVar j)) ρ QD := fun F H σ E QQ k => by
  obtain ⟨p, vs, e, _, k2, k3⟩ := E.own_at hj
  have e3 := k3.strs
  subst e3
  exact ⟨⟨a, rfl⟩, .ref p, e, a, p, ys, rfl, rfl, .inl (.inl (.inl k2)), hz, k _ _ F H ρ E (Ex.refl F) (.str _) q⟩
/-! ### one sign in a text -/
abbrev rInS1 : R2 := fun x y H Q => ∃ (c : Nat) (z : Str), x = .str ⟨#[c]⟩ ∧ y = .str z ∧ Q (.bl (decide (c ∈ z.cps.toList))) H
abbrev rNiS1 : R2 := fun x y H Q => ∃ (c : Nat) (z : Str), x = .str ⟨#[c]⟩ ∧ y = .str z ∧ Q (.bl (!decide (c ∈ z.cps.toList))) H
theorem wd_inSign {B : Bs} {K : Fr} {ρ : En} {ta tb : TE} {QD : PyData → En → Prop} (h : WD B K ta ρ fun x ρ1 => ∃ c, x = .str ⟨#[c]⟩ ∧ WD B K tb ρ1 fun y ρ2 => ∃ z, y = .str z ∧ QD (.bool (decide (c ∈ z.cps.toList))) ρ2) : WD B K (tOp rInS1 ta tb) ρ QD := fun F H σ E QQ k =>
  h F H σ E _ fun v x F1 H1 ρ1 E1 e1 rv ⟨i, hx, q⟩ => q F1 H1 σ E1 _ fun u y F2 H2 ρ2 E2 e2 ru ⟨j, hy, q2⟩ => by
    subst hx hy
    cases rv; cases ru
    exact ⟨i, j, rfl, rfl, k _ _ F2 H2 ρ2 E2 (e1.trans e2) (.bl _) q2⟩
theorem wd_niSign {B : Bs} {K : Fr} {ρ : En} {ta tb : TE} {QD : PyData → En → Prop} (h : WD B K ta ρ fun x ρ1 => ∃ c, x = .str ⟨#[c]⟩ ∧ WD B K tb ρ1 fun y ρ2 => ∃ z, y = .str z ∧ QD (.bool (!decide (c ∈ z.cps.toList))) ρ2) : WD B K (tOp rNiS1 ta tb) ρ QD := fun F H σ E QQ k =>
  h F H σ E _ fun v x F1 H1 ρ1 E1 e1 rv ⟨i, hx, q⟩ => q F1 H1 σ E1 _ fun u y F2 H2 ρ2 E2 e2 ru ⟨j, hy, q2⟩ => by
    subst hx hy
    cases rv; cases ru
    exact ⟨i, j, rfl, rfl, k _ _ F2 H2 ρ2 E2 (e1.trans e2) (.bl _) q2⟩
/-! ### what the top has written -/
abbrev veX : List Value := [.type "ValueError", .type "Exception", .type "BaseException", .type "object"]
structure ExcT (K : Fr) (mg : Str → Option Value) (nm : Str) (a : Addr) : Prop where
  g : mg nm = some (.ref a)
  x : PySem.W.excIn K a veX "ValueError.__new__" = true
  k : PySem.W.keepIn K (.ref a) = true
  b : PySem.W.subIn K (.ref a) (.type "BaseException") = some true
  t : PySem.W.typeIn K (.ref a) = some (.type "type")
structure Df (K : Fr) (mg : Str → Option Value) (nm : Str) (st : Stmt) (ps : List Str) (f : Addr) (fd : FuncData) : Prop where
  F : Fun K nm nm st f fd
  g : mg nm = some (.ref f)
  b : Binds K fd ps []
theorem Df.kp {K : Fr} {mg : Str → Option Value} {nm : Str} {st : Stmt} {ps : List Str} {f : Addr} {fd : FuncData} (d : Df K mg nm st ps f fd) : PySem.W.keepIn K (.ref f) = true := d.F.kp
/-- the law's own meaning: True -/
def G_law : GF := fun ls Po _ => ∃ ns : List Int, ls = [.scr ns] ∧ ns.length ≤ 63 ∧ Po (.d (.bool true)) []
theorem law_sp {K : Fr} {H : Hp} {a : Addr} {ns : List Int} (hS : SqL K H a (ns.map V.int)) (hl : ns.length ≤ 63) : SpG K none G_law [.ref a] H (fun v _ => v = .bl true) fun _ _ _ => False := by
  refine ⟨H, H, [.scr ns], fun r _ => r = .d (.bool true), fun _ => False, args_pl (vs := [.ref a]) (Ex.refl H) rfl (fun i l e => ?_), ⟨ns, rfl, hl, rfl⟩, fun v r F' H' ys st rv _ q => ?_, fun C F' H' ys _ _ h => h⟩
  · cases i with
    | zero => cases e; exact ⟨⟨.ref a, rfl, a, rfl, hS⟩, rfl⟩
    | succ i => simp at e
  · subst q
    cases (show Rp K F' v (.bool true) from rv)
    rfl
end SV

set_option maxHeartbeats 1000000
namespace SV
open PySem PySem.Spec L2
open Evl (Ex)
/-! ### try: f(..) except C as e: what a refusal is -/
def tTry (K : Fr) (c : Value) (i : Nat) (tb : WX → TS) (ts : Addr → Value → Option Addr → TS) : TS := fun D σ H => tb (wAs K c i ts (fun _ _ _ _ => False) D) D σ H
section
variable {X : Cx} {x n : Str} {c : Value} {i : Nat} {body suite : List Stmt} {b0 : Stmt} {np pos pos' : Pos} {tb : WX → TS} {ts : Addr → Value → Option Addr → TS}
theorem k_try (K : Fr) (hK : X.K = K) (hs : X.stack = X.env :: X.outer) (hf : X.env.frame = some X.env.locals) (hN : X.N.Nodup) (hi : X.N[i]? = some n) (hln : X.env.kindOf n = some .local) (hc : Names X x c)
    (hb : ∀ (W : WX) (pn : List (Addr × Obj)) (xe : Value → Shared → Prop), Takes (X.tr pn xe) W → PassesOwn (model X.prog X.w) X.A X.env xe → PSs (X.tr pn xe) body (tb W))
    (hsu : ∀ (a : Addr) (oe : Obj) (cls : Value) (d : Option Addr) (pn : List (Addr × Obj)), Zc cls d oe → (∃ vs, oe.data = .fields vs) → PSs (X.suite a ((a, oe) :: pn)) (b0 :: suite) (ts a cls d)) :
    PS X (.Try body [.ExceptHandler (some (.Name x np)) (some n) (b0 :: suite) pos'] [] [] pos) (tTry K c i tb ts) := hK ▸ ps_try_as (Wout := fun _ _ _ _ => False) hs hf hN hi hln hc takes0 hb hsu
end
/-! isinstance of the error that a suite holds -/
abbrev rIsX (K : Fr) (a : Addr) (cls : Value) (d : Option Addr) : List V → Hp → VK → Prop := fun xs H Q => ∃ (D : Addr) (c : V) (cv : Value) (b : Bool), cls = .ref D ∧ d = none ∧ ExcC K D ∧ xs = [.ref a, c] ∧ ClsV c cv ∧ PySem.W.kitOne K (.ref D) cv = some b ∧ Q (.bl b) H
abbrev rIsXT (K : Fr) (a : Addr) (cls : Value) (d : Option Addr) : List V → Hp → VK → Prop := fun xs H Q => ∃ (D : Addr) (tp : Addr) (cs : List V) (us : List Value) (b : Bool), cls = .ref D ∧ d = none ∧ ExcC K D ∧ xs = [.ref a, .ref tp] ∧ H tp = some (.tup cs) ∧ Paired ClsV cs us ∧ PySem.W.kitAny K (.ref D) us = some b ∧ Q (.bl b) H
theorem k_isx {X : Cx} {a : Addr} {oe : Obj} {cls : Value} {d : Option Addr} {pn : List (Addr × Obj)} (K : Fr) (hz : Zc cls d oe) (hf : ∃ vs, oe.data = .fields vs) (h : X.K = K := by rfl) : CallR (X.suite a ((a, oe) :: pn)) (.builtin "isinstance") (rIsX K a cls d) := by
  subst h
  intro pins s σ H xs us Q I r hh
  obtain ⟨D, c, cv, b, rfl, rfl, C, rfl, k, e, q⟩ := hh
  exact call_isE C hz hf pins s σ H _ us Q I r ⟨c, cv, b, rfl, fun u hu => k.eq hu, e, q⟩
theorem k_isxT {X : Cx} {a : Addr} {oe : Obj} {cls : Value} {d : Option Addr} {pn : List (Addr × Obj)} (K : Fr) (hz : Zc cls d oe) (hf : ∃ vs, oe.data = .fields vs) (h : X.K = K := by rfl) : CallR (X.suite a ((a, oe) :: pn)) (.builtin "isinstance") (rIsXT K a cls d) := by
  subst h
  intro pins s σ H xs us Q I r hh
  obtain ⟨D, tp, cs, ws, b, rfl, rfl, C, rfl, hT, k, e, q⟩ := hh
  obtain ⟨u1, u2, rfl, r1, r2⟩ := vals2 r
  cases (show u1 = Value.ref a from r1)
  cases (show u2 = Value.ref tp from r2)
  obtain ⟨hget, _⟩ := I.pin (a, oe) (List.mem_append.mpr (.inl List.mem_cons_self))
  obtain ⟨vs, hv⟩ := hf
  have J : PySem.W.InstAt s.heap a oe D none := by
    obtain ⟨oc, od, oda, osl⟩ := oe
    obtain ⟨z1, z2⟩ := hz
    dsimp only at z1 z2 hv
    subst z1 z2 hv
    exact ⟨hget, rfl, rfl, trivial⟩
  obtain ⟨_, its, rv, o, h1, h2, n, h3⟩ := (show ObjOk X.prog X.w H s.heap tp (.tup cs) from I.hok tp _ hT)
  have e3 := ClsV.all k rv
  subst e3
  obtain ⟨oc, od, dt, sl⟩ := o
  simp only at h2 h3
  subst h2 h3
  exact PySem.W.kia_tup (PySem.W.handS_kitx_exc C.hg C.hk C.hs C.hd C.ha C.hn C.ht C.hm) I.kIn J h1 e (fun z => nomatch z) fun tk => ⟨.bl b, H, I.tok tk, rfl, q⟩
/-! ### what a try lets its body raise -/
/-- class C may be raised where the slots read as ρ -/
def EKr (B : Bs) (K : Fr) (W : WX) (C : Addr) (ρ : En) : Prop := ∀ F H σ, EnvOk B K F H σ ρ → W (.ref C) none σ H
abbrev Bs.up (B : Bs) (F : Hp) : Bs := ⟨F, B.H0, B.pin⟩
def tTryO (K : Fr) (c : Value) (tb : WX → TS) (ts : Addr → Value → Option Addr → TS) : TS := fun D σ H => tb (wOnly K c ts (fun _ _ _ _ => False) D) D σ H
section
variable {X : Cx} {x : Str} {c : Value} {body suite : List Stmt} {b0 : Stmt} {np pos pos' : Pos} {tb : WX → TS} {ts : Addr → Value → Option Addr → TS}
theorem k_tryO (K : Fr) (hK : X.K = K) (hs : X.stack = X.env :: X.outer) (hf : X.env.frame = some X.env.locals) (hc : Names X x c)
    (hb : ∀ (W : WX) (pn : List (Addr × Obj)) (xe : Value → Shared → Prop), Takes (X.tr pn xe) W → PassesOwn (model X.prog X.w) X.A X.env xe → PSs (X.tr pn xe) body (tb W))
    (hsu : ∀ (a : Addr) (oe : Obj) (cls : Value) (d : Option Addr) (pn : List (Addr × Obj)), Zc cls d oe → (∃ vs, oe.data = .fields vs) → PSs (X.suite a ((a, oe) :: pn)) (b0 :: suite) (ts a cls d)) :
    PS X (.Try body [.ExceptHandler (some (.Name x np)) none (b0 :: suite) pos'] [] [] pos) (tTryO K c tb ts) := hK ▸ ps_try_only (Wout := fun _ _ _ _ => False) hs hf hc takes0 hb hsu
end
section
variable {B : Bs} {K : Fr} {F H : Hp} {σ : L2.St} {ρ : En} {ta : TA} {Q : R → En → Prop} {QD : PyData → En → Prop} {Z : Zs}
theorem EnvOk.upB (E : EnvOk B K F H σ ρ) : EnvOk (B.up F) K F H σ ρ :=
  ⟨⟨Ex.refl F, E.st.fh, E.st.h0, E.st.th, fun a h1 _ => h1⟩, E.len, E.sl, E.sep, E.mine, E.pin⟩
theorem EnvOk.dnB {F0 H0 : Hp} (E0 : St1 B F0 H0) (E : EnvOk (B.up F0) K F H σ ρ) : EnvOk B K F H σ ρ :=
  ⟨⟨E0.f0.trans E.st.f0, E.st.fh, E.st.h0, E.st.th, fun a h1 h2 => E.st.nf a (E0.nf a h1 h2) h2⟩, E.len, E.sl, E.sep, E.mine, E.pin⟩
theorem ZOk.upB {F0 : Hp} {H0 : Hp} {D : Ends} (E0 : St1 B F0 H0) (ok : ZOk B K F0 Z D) : ∀ F1, ZOk (B.up F0) K F1 Z D := fun F1 =>
  ⟨fun F H σ ρ E e => ok.nx F H σ ρ (E.dnB E0) E.st.f0, fun F H σ ρ v r E e rv => ok.rt F H σ ρ v r (E.dnB E0) E.st.f0 rv, fun F H σ ρ E e => ok.bk F H σ ρ (E.dnB E0) E.st.f0, fun F H σ ρ E e => ok.ct F H σ ρ (E.dnB E0) E.st.f0⟩
/-- try: body, except C as slot i -/
theorem ws_try {c : Value} {i : Nat} {tb : WX → TS} {ts : Addr → Value → Option Addr → TS} (np : NP B i) (S : Addr → En → Prop)
    (h : ∀ (F0 : Hp) (W : WX), (∀ C ρ1, S C ρ1 → EKr (B.up F0) K W C ρ1) → WS (B.up F0) K (tb W) ρ Z)
    (hs : ∀ (F0 : Hp) C ρ1, S C ρ1 → PySem.W.exmOne K (.ref C) c = some true ∧ ∀ a, WS (B.up F0) K (ts a (.ref C) none) (ρ1.set i (some (.raw (.ref a)))) ⟨fun ρ2 => Z.nx (ρ2.set i none), Z.rt, fun ρ2 => Z.bk (ρ2.set i none), fun ρ2 => Z.ct (ρ2.set i none)⟩) :
    WS B K (tTry K c i tb ts) ρ Z := fun F H σ E D ok => by
  have Zu := ok.upB E.st
  refine h F _ (fun C ρ1 hS F1 H1 σ1 E1 => ?_) F H σ E.upB D (Zu F)
  obtain ⟨hm, hw⟩ := hs F C ρ1 hS
  refine ⟨true, hm, fun _ a ha => ?_, fun z => nomatch z⟩
  have z1 := Zu F1
  exact hw a F1 H1 _ (E1.setD (l := .raw (.ref a)) rfl rfl np) _ ⟨fun F2 H2 σ2 ρ2 E2 e2 q => z1.nx F2 H2 _ _ (E2.forget np) e2 q, fun F2 H2 σ2 ρ2 v r E2 e2 rv q => z1.rt F2 H2 σ2 ρ2 v r E2 e2 rv q, fun F2 H2 σ2 ρ2 E2 e2 q => z1.bk F2 H2 _ _ (E2.forget np) e2 q, fun F2 H2 σ2 ρ2 E2 e2 q => z1.ct F2 H2 _ _ (E2.forget np) e2 q⟩
/-- try: body, except C without a name -/
theorem ws_tryO {c : Value} {tb : WX → TS} {ts : Addr → Value → Option Addr → TS} (S : Addr → En → Prop)
    (h : ∀ (F0 : Hp) (W : WX), (∀ C ρ1, S C ρ1 → EKr (B.up F0) K W C ρ1) → WS (B.up F0) K (tb W) ρ Z)
    (hs : ∀ (F0 : Hp) C ρ1, S C ρ1 → PySem.W.exmOne K (.ref C) c = some true ∧ ∀ a, WS (B.up F0) K (ts a (.ref C) none) ρ1 Z) :
    WS B K (tTryO K c tb ts) ρ Z := fun F H σ E D ok => by
  have Zu := ok.upB E.st
  refine h F _ (fun C ρ1 hS F1 H1 σ1 E1 => ?_) F H σ E.upB D (Zu F)
  obtain ⟨hm, hw⟩ := hs F C ρ1 hS
  exact ⟨true, hm, fun _ a ha => hw a F1 H1 _ E1 _ (Zu F1), fun z => nomatch z⟩
/-- a call within a try's body -/
theorem we_callS {G : GF} {W : WX} (h : WA B K ta ρ fun as ρ1 => ∃ ls Pe, argL as = some ls ∧ G ls (fun r _ => Q r ρ1) Pe ∧ ∀ C, Pe C → EKr B K W C ρ1) : WE B K (tCallS (SpG K none G) (L2.WE W) ta) ρ Q := fun F H σ E0 QQ k =>
  h F H σ E0 _ fun vs as F1 H1 ρ1 E1 e1 av ⟨ls, Pe, ha, hG, hE⟩ => by
    show SpG K none G vs H1 QQ (L2.WE W σ)
    obtain ⟨hl, hs⟩ := args_sl (H := H1) av ha
    exact ⟨F1, H1, ls, fun r _ => Q r ρ1, Pe, args_pl E1.fh hl hs, hG, fun v r F' H' ys st rv _ q =>
      have E2 := E1.step st.stp
      k v r F' H' ρ1 E2 (e1.trans st.stp.ef) (ret_ok E2 E1.fr2 rv) q, fun C F' H' ys st _ hC => hE C hC F' H' σ (E1.step st.stp)⟩
theorem wd_isx {i : Nat} {a D : Addr} {c : V} {cv : Value} {b : Bool} (hi : ρ[i]? = some (some (.raw (.ref a)))) (C : ExcC K D) (k : ClsV c cv) (e : PySem.W.kitOne K (.ref D) cv = some b) (q : QD (.bool b) ρ) : WD B K (tCB (rIsX K a (.ref D) none) (tCons (tVar i) (tCons (tC c) tNil))) ρ QD := fun F H σ E QQ kk => by
  obtain ⟨v, hv, sv⟩ := E.sl i _ hi
  cases (show v = .ref a from sv)
  exact ⟨_, hv, D, c, cv, b, rfl, rfl, C, rfl, k, e, kk _ _ F H ρ E (Ex.refl F) (.bl b) q⟩
/-- a row of classes -/
inductive Cts : TA → List V → List Value → Prop
  | nil : Cts tNil [] []
  | cons {a : Addr} {t : TA} {cs : List V} {us : List Value} (h : Cts t cs us) : Cts (tCons (tC (.ref a)) t) (.ref a :: cs) (.ref a :: us)
theorem Cts.run {t : TA} {cs : List V} {us : List Value} (h : Cts t cs us) (σ : L2.St) (H : Hp) {Q : List V → Hp → Prop} (q : Q cs H) : t σ H Q := by
  induction h generalizing Q with
  | nil => exact q
  | cons h ih => exact ih q
theorem Cts.pair {t : TA} {cs : List V} {us : List Value} (h : Cts t cs us) : Paired ClsV cs us := by
  induction h with
  | nil => exact .nil
  | cons h ih => exact .cons (.own _) ih
theorem wd_isxT {i : Nat} {a D : Addr} {t : TA} {cs : List V} {us : List Value} {b : Bool} (hi : ρ[i]? = some (some (.raw (.ref a)))) (ht : Cts t cs us) (hl : cs.length ≤ sizeLine) (C : ExcC K D) (e : PySem.W.kitAny K (.ref D) us = some b) (q : QD (.bool b) ρ) : WD B K (tCB (rIsXT K a (.ref D) none) (tCons (tVar i) (tCons (tTup t) tNil))) ρ QD := fun F H σ E QQ kk => by
  obtain ⟨v, hv, sv⟩ := E.sl i _ hi
  cases (show v = .ref a from sv)
  refine ⟨_, hv, ht.run σ H ⟨hl, fun p hp => ?_⟩⟩
  obtain ⟨E2, e2⟩ := E.alloc (o := .tup cs) hp
  exact ⟨D, p, cs, us, b, rfl, rfl, C, rfl, upd_same, ht.pair, e, kk _ _ _ _ ρ E2 e2 (.bl b) q⟩
end
end SV

set_option maxHeartbeats 1000000
namespace SV
open PySem PySem.Spec L2
open Evl (Ex)
/-! ### a call that only reads own lists: its answer holds no lists -/
def atomD : PyData → Bool
  | .none => true
  | .bool _ => true
  | .int _ => true
  | .str _ => true
  | _ => false
abbrev flatR : R → Prop
  | .d x => atomD x = true
  | .new xs => ∀ x, x ∈ xs → atomD x = true
  | .scr _ => False
  | .raw _ => False
  | .deep _ => False
  | .newD _ _ => False
def argR (ρ : En) : List Ar → Option (List L)
  | [] => some []
  | .d x :: r => (argR ρ r).map (.d x :: ·)
  | .scr ns :: r => (argR ρ r).map (.scr ns :: ·)
  | .raw v :: r => (argR ρ r).map (.raw v :: ·)
  | .own j :: r => match ρ[j]? with
    | some (some (.own xs)) => (argR ρ r).map (.d (.list xs) :: ·)
    | some (some (.deep t)) => if t.isD = true then (argR ρ r).map (.d t.data :: ·) else none
    | _ => none
def tCallR (sp : Sp) (E : XK) (t : TA) : TE := fun σ H Q => True ∧ tCall sp [] E t σ H Q
def tCallRS (sp : Sp) (E : St → XK) (t : TA) : TE := fun σ H Q => True ∧ tCallS sp E t σ H Q
theorem pe_ro {X : Cx} {e : Expr} {sp : Sp} {E : XK} {t : TA} (h : PE X e (tCall sp [] E t)) : PE X e (tCallR sp E t) := ⟨fun pins s σ H Q I hh => h.run pins s σ H Q I hh.2⟩
theorem pe_roS {X : Cx} {e : Expr} {sp : Sp} {E : St → XK} {t : TA} (h : PE X e (tCallS sp E t)) : PE X e (tCallRS sp E t) := ⟨fun pins s σ H Q I hh => h.run pins s σ H Q I hh.2⟩
theorem Rp.atom {K : Fr} {F F' : Hp} {v : V} {x : PyData} (h : Rp K F v x) (a : atomD x = true) : Rp K F' v x := by
  cases h with
  | int i => exact .int i
  | bl b => exact .bl b
  | str s => exact .str s
  | non => exact .non
  | _ => cases a
theorem RpA.atom {K : Fr} {F F' : Hp} : ∀ {vs : List V} {xs : List PyData}, RpA K F vs xs → (∀ x, x ∈ xs → atomD x = true) → RpA K F' vs xs
  | _, _, .nil, _ => .nil
  | _, _, .cons h t, a => .cons (h.atom (a _ List.mem_cons_self)) (t.atom fun x hx => a x (List.mem_cons_of_mem _ hx))
section
variable {B : Bs} {K : Fr} {F H F' H' : Hp} {σ : L2.St} {ρ : En} {ta tr te : TA} {Q : R → En → Prop} {QD : PyData → En → Prop} {QA : List Ar → En → Prop} {Z : Zs}
theorem argsR_sl (E : EnvOk B K F H σ ρ) : ∀ {as : List Ar} {vs : List V} {ls : List L}, AOks K F σ vs as → argR ρ as = some ls → vs.length = ls.length ∧ ∀ (i : Nat) (l : L), ls[i]? = some l → (∃ v, vs[i]? = some v ∧ SlotOk K H H v l) ∧ l.pl = true
  | [], _, _, .nil, e => by
    cases e
    exact ⟨rfl, fun i l h => by simp at h⟩
  | a :: as, _, ls, .cons (v := v) (vs := vs) ha hs, e => by
    have key : ∃ l ls', ls = l :: ls' ∧ argR ρ as = some ls' ∧ SlotOk K H H v l ∧ l.pl = true := by
      cases a with
      | d x =>
        cases q : argR ρ as with
        | none => unfold argR at e; rw [q] at e; cases e
        | some ls' => unfold argR at e; rw [q] at e; cases e; exact ⟨_, ls', rfl, rfl, Rp.mono E.fh ha, rfl⟩
      | scr x =>
        cases q : argR ρ as with
        | none => unfold argR at e; rw [q] at e; cases e
        | some ls' => unfold argR at e; rw [q] at e; cases e; obtain ⟨a, e1, h⟩ := ha; exact ⟨_, ls', rfl, rfl, ⟨a, e1, E.fh.sl h⟩, rfl⟩
      | raw x =>
        cases q : argR ρ as with
        | none => unfold argR at e; rw [q] at e; cases e
        | some ls' => unfold argR at e; rw [q] at e; cases e; exact ⟨_, ls', rfl, rfl, ha, rfl⟩
      | own j =>
        unfold argR at e
        split at e
        · rename_i xs hj
          cases q : argR ρ as with
          | none => rw [q] at e; cases e
          | some ls' =>
            rw [q] at e; cases e
            obtain ⟨b, cs, hb, f1, f2, f3⟩ := E.own_at hj
            rw [show σ[j]? = some (some v) from ha] at hb
            cases hb
            exact ⟨_, ls', rfl, rfl, .lst f2 (f3.mono E.fh), rfl⟩
        · rename_i t hj
          by_cases c : t.isD = true
          · simp only [c, if_true] at e
            cases q : argR ρ as with
            | none => rw [q] at e; cases e
            | some ls' =>
              rw [q] at e; cases e
              obtain ⟨w, hb, f1, _⟩ := E.sl j _ hj
              rw [show σ[j]? = some (some v) from ha] at hb
              cases hb
              exact ⟨_, ls', rfl, rfl, f1.rp E.fh c fun _ _ => rfl, rfl⟩
          · simp only [c] at e
            cases e
        · cases e
    obtain ⟨l, ls', rfl, e', sl, no⟩ := key
    obtain ⟨h1, h2⟩ := argsR_sl E hs e'
    refine ⟨congrArg (· + 1) h1, fun i l2 h => ?_⟩
    cases i with
    | zero =>
      have z := Option.some.inj h
      subst z
      exact ⟨⟨v, rfl, sl⟩, no⟩
    | succ i => exact h2 i l2 h
theorem EnvOk.over (E : EnvOk B K F H σ ρ) (st : St1 ⟨H, H, none⟩ F' H') : EnvOk B K F H' σ ρ :=
  E.step ⟨Ex.refl F, fun a o e => st.h0 a o (E.fh a o e) (fun _ z => nomatch z), fun a o e => st.h0 a o e (fun _ z => nomatch z), fun a h _ => h⟩
theorem flat_ok (E : EnvOk B K F H σ ρ) (st : St1 ⟨H, H, none⟩ F' H') {v : V} {r : R} (rv : RetOk ⟨H, H, none⟩ K F' H' v r) (fl : flatR r) : ROk B K F H' σ ρ v r := by
  cases r with
  | d x => exact Rp.atom rv fl
  | new xs =>
    obtain ⟨a, ws, e, k1, k2, k3, k4⟩ := rv
    exact ⟨a, ws, e, E.fh.free k4, k2, k3.atom fl, (E.fr2 a k4).1, (E.fr2 a k4).2⟩
  | scr ns => exact fl.elim
  | raw w => exact fl.elim
  | deep t => exact fl.elim
  | newD ks xs => exact fl.elim
theorem we_callR {G : GF} {E : XK} (h : WA B K ta ρ fun as ρ1 => ∃ ls Pe, argR ρ1 as = some ls ∧ G ls (fun r _ => flatR r ∧ Q r ρ1) Pe ∧ ∀ C, Pe C → EK B K E C) : WE B K (tCallR (SpG K none G) E ta) ρ Q := fun F H σ E0 QQ k => ⟨trivial, by
  refine h F H σ E0 _ fun vs as F1 H1 ρ1 E1 e1 av ⟨ls, Pe, ha, hG, hE⟩ => ?_
  · show SpG K none G (vs ++ []) H1 QQ E
    rw [List.append_nil]
    obtain ⟨hl, hs⟩ := argsR_sl E1 av ha
    exact ⟨H1, H1, ls, fun r _ => flatR r ∧ Q r ρ1, Pe, args_pl (Ex.refl H1) hl hs, hG, fun v r F' H' ys st rv _ q => k v r F1 H' ρ1 (E1.over st) e1 (flat_ok E1 st rv q.1) q.2, fun C F' H' ys st _ hC => hE C hC F1 H' σ ρ1 (E1.over st)⟩⟩
theorem we_callRS {G : GF} {W : WX} (h : WA B K ta ρ fun as ρ1 => ∃ ls Pe, argR ρ1 as = some ls ∧ G ls (fun r _ => flatR r ∧ Q r ρ1) Pe ∧ ∀ C, Pe C → EKr B K W C ρ1) : WE B K (tCallRS (SpG K none G) (L2.WE W) ta) ρ Q := fun F H σ E0 QQ k => ⟨trivial, by
  refine h F H σ E0 _ fun vs as F1 H1 ρ1 E1 e1 av ⟨ls, Pe, ha, hG, hE⟩ => ?_
  · show SpG K none G vs H1 QQ (L2.WE W σ)
    obtain ⟨hl, hs⟩ := argsR_sl E1 av ha
    exact ⟨H1, H1, ls, fun r _ => flatR r ∧ Q r ρ1, Pe, args_pl (Ex.refl H1) hl hs, hG, fun v r F' H' ys st rv _ q => k v r F1 H' ρ1 (E1.over st) e1 (flat_ok E1 st rv q.1) q.2, fun C F' H' ys st _ hC => hE C hC F1 H' σ (E1.over st)⟩⟩
/-! arguments that no callee changes -/
def WAf (B : Bs) (K : Fr) (ta : TA) (ρ : En) (Q : List Ar → En → Prop) : Prop := WA B K ta ρ Q
theorem waf_nil (q : QA [] ρ) : WAf B K tNil ρ QA := wa_nil q
theorem waf_d {te : TE} (h : WD B K te ρ fun x ρ1 => WAf B K tr ρ1 fun as ρ2 => QA (.d x :: as) ρ2) : WAf B K (tCons te tr) ρ QA := wa_d h
theorem waf_scr {i : Nat} {ns : List Int} (h : ρ[i]? = some (some (.scr ns))) (q : WAf B K tr ρ fun as ρ2 => QA (.scr ns :: as) ρ2) : WAf B K (tCons (tVar i) tr) ρ QA := wa_e (we_scr h ⟨_, rfl, q⟩)
theorem waf_raw {i : Nat} {v : V} (h : ρ[i]? = some (some (.raw v))) (q : WAf B K tr ρ fun as ρ2 => QA (.raw v :: as) ρ2) : WAf B K (tCons (tVar i) tr) ρ QA := wa_e (we_rawv h ⟨_, rfl, q⟩)
theorem we_callF {G : GF} {E : XK} (h : WAf B K ta ρ fun as ρ1 => ∃ ls Pe, argL as = some ls ∧ G ls (fun r _ => Q r ρ1) Pe ∧ ∀ C, Pe C → EK B K E C) : WE B K (tCall (SpG K none G) [] E ta) ρ Q := we_call h
theorem we_callFS {G : GF} {W : WX} (h : WAf B K ta ρ fun as ρ1 => ∃ ls Pe, argL as = some ls ∧ G ls (fun r _ => Q r ρ1) Pe ∧ ∀ C, Pe C → EKr B K W C ρ1) : WE B K (tCallS (SpG K none G) (L2.WE W) ta) ρ Q := we_callS h
theorem wd_pow {t1 t2 : TE} (h : WD B K t1 ρ fun x ρ1 => ∃ i, x = .int i ∧ WD B K t2 ρ1 fun y ρ2 => ∃ j, y = .int j ∧ CPow i j ∧ QD (.int (i ^ j.toNat)) ρ2) : WD B K (tOp (rI CPow fun i j => .int (i ^ j.toNat)) t1 t2) ρ QD := fun F H σ E QQ k =>
  h F H σ E _ fun v x F1 H1 ρ1 E1 e1 rv ⟨i, hx, q⟩ => q F1 H1 σ E1 _ fun u y F2 H2 ρ2 E2 e2 ru ⟨j, hy, hc, q2⟩ => by
    subst hx hy
    cases rv; cases ru
    exact ⟨i, j, rfl, rfl, hc, k _ _ F2 H2 ρ2 E2 (e1.trans e2) (.int _) q2⟩
end
/-! classes against classes -/
theorem kit_self {K : Fr} {t : Value} : PySem.W.kitOne K t t = some true := if_pos (beq_self_eq_true _)
theorem kit_ne {K : Fr} {t : Value} {C : Addr} {b : Bool} (hne : (t == Value.ref C) = false) (hd : PySem.W.hasDictIn K C = true) (ht : PySem.W.typeIn K (.ref C) = some (.type "type")) (h : PySem.W.subIn K t (.ref C) = some b) : PySem.W.kitOne K t (.ref C) = some b := by
  obtain ⟨cd, hc, _⟩ := PySem.W.any_some hd
  have e2 : ((PySem.W.clsIn K C).isSome && PySem.W.typeIn K (.ref C) == some (.type "type")) = true := by rw [hc, ht] <;> rfl
  show (if (t == Value.ref C) = true then some true else (if ((PySem.W.clsIn K C).isSome && PySem.W.typeIn K (.ref C) == some (.type "type")) = true then PySem.W.subIn K t (.ref C) else none)) = some b
  rw [hne, if_neg (by decide), if_pos e2]
  exact h
theorem kit_bt {K : Fr} {a : Addr} {n : String} {b : Bool} (hm : PySem.W.kitMeta n = true) (h : PySem.W.subIn K (.ref a) (.type n) = some b) : PySem.W.kitOne K (.ref a) (.type n) = some b := by
  show (if (Value.ref a == Value.type n) = true then some true else (if PySem.W.kitMeta n = true then PySem.W.subIn K (.ref a) (.type n) else none)) = some b
  rw [if_pos hm, show (Value.ref a == Value.type n) = false from rfl, if_neg (by decide)]
  exact h
end SV

set_option maxHeartbeats 1000000
namespace SV
open PySem PySem.Spec L2 PyProof.Rows
open Evl (Ex)
/-! ### xs[a:b:c]: some items of a list, by a step -/
def tSl3 (K : Fr) (te : TE) (tl th ts : TO) : TE := fun σ H Q => te σ H fun x H1 => tl σ H1 fun _ H2 => th σ H2 fun _ H3 => ts σ H3 fun st H4 => st ≠ some 0 ∧ ∃ a xs, x = .ref a ∧ SqL K H4 a xs ∧ ∀ p ys, H4 p = none → (∀ y, y ∈ ys → y ∈ xs) → ys.length ≤ xs.length → Q (.ref p) (upd H4 p (.lst ys))
theorem vals_pick {xs : List V} {us : List Value} (r : Vals xs us) : ∀ l : List Nat, ∃ ys : List V, Vals ys (l.filterMap (us.toArray[·]?)) ∧ ∀ y, y ∈ ys → y ∈ xs
  | [] => ⟨[], .nil, fun _ h => nomatch h⟩
  | i :: l => by
    obtain ⟨ys, h1, h2⟩ := vals_pick r l
    cases e : xs[i]? with
    | none =>
      have e2 := r.none_of e
      refine ⟨ys, ?_, h2⟩
      rw [List.filterMap_cons, show us.toArray[i]? = none by simpa using e2]
      exact h1
    | some x =>
      obtain ⟨u, e2, ru⟩ := r.get e
      refine ⟨x :: ys, ?_, fun y hy => ?_⟩
      · rw [List.filterMap_cons, show us.toArray[i]? = some u by simpa using e2]
        exact .cons ru h1
      · rcases List.mem_cons.mp hy with h | h
        · rw [h]; exact List.mem_of_getElem? e
        · exact h2 y h
theorem k_slice3 {X : Cx} {e : Expr} {te : TE} {tl th ts : TO} {lo hi : Option Expr} {st : Expr} {p3 pos : Pos} (K : Fr) (hK : X.K = K) (he : PE X e te) (hl : PO X lo tl) (hu : PO X hi th) (hs : PO X (some st) ts) : PE X (.Subscript e (.Slice lo hi (some st) p3) pos) (tSl3 K te tl th ts) := by
  subst hK
  refine ⟨fun pins s σ H Q I h => ?_⟩
  refine Subscript_ (thn (he.run pins s σ H _ I h) fun v s1 ⟨x, H1, I1, r1, q1⟩ => ?_)
  refine wpAny_Slice (thn (hl.run pins s1 σ H1 _ I1 q1) fun vl s2 ⟨l, H2, I2, pl, q2⟩ => ?_)
  refine thn (hu.run pins s2 σ H2 _ I2 q2) fun vu s3 ⟨u, H3, I3, pu, q3⟩ => ?_
  refine thn (hs.run pins s3 σ H3 _ I3 q3) fun vs s4 ⟨o, H4, I4, ps, ne, a, xs, ex, hx, q⟩ => ?_
  subst ex
  cases r1
  have I5 : Inv X pins σ H4 { s4 with heap := s4.heap.push { cls := .type "slice", data := .fields #[vl, vu, vs] } } := I4.kept (t' := s4.toks) fun b ob q => Heap.get?_push_of_some _ q
  obtain ⟨its, r, ht, hz⟩ := I5.list hx
  have hlen := r.length
  show wpAny (model X.prog X.w) X.A (subscriptTail e (.Slice lo hi (some st) p3) (.ref a) (.ref s4.heap.objs.size)) (EP X pins σ Q) X.xe { s4 with heap := s4.heap.push { cls := .type "slice", data := .fields #[vl, vu, vs] } }
  refine tail_any (ops := [.ref a, .ref s4.heap.objs.size]) ht.isList.typeIs (PySem.slot_list_getitem.lookup) ?_ (by with_unfolding_all rfl)
  refine wpAny_getItem_list_slice ht.isList (Heap.IsSliceOf.new _ vl vu vs) pl pu ps ne ?_ (by rw [List.size_toArray]; omega)
  obtain ⟨ys, rp, hm⟩ := vals_pick r (sliceRange (sliceBounds l u o its.toArray.size).1 (sliceBounds l u o its.toArray.size).2.1 (sliceBounds l u o its.toArray.size).2.2)
  have hsz := slicePick_size_le its.toArray l u o
  unfold slicePick at hsz ⊢
  rw [List.size_toArray, ← rp.length, List.size_toArray, ← hlen] at hsz
  refine ⟨.ref _, _, I5.laid (t' := s4.toks) (o := .lst ys) (fun b ob q => Heap.get?_push_of_some _ q) (Nat.le_refl _) ?_, rfl, q _ ys (I5.hok.fresh (Nat.le_refl _)) hm hsz⟩
  exact ⟨Nat.le_trans hsz hz, _, 0, rp, Heap.get?_push_size _ rfl⟩
theorem ints_of {ns : List Int} : ∀ {ys : List V}, (∀ y, y ∈ ys → y ∈ ns.map V.int) → ∃ ms : List Int, ys = ms.map V.int
  | [], _ => ⟨[], rfl⟩
  | y :: ys, h => by
    obtain ⟨ms, e⟩ := ints_of (ys := ys) fun z hz => h z (List.mem_cons_of_mem _ hz)
    obtain ⟨n, _, en⟩ := List.mem_map.mp (h y List.mem_cons_self)
    exact ⟨n :: ms, by rw [e, ← en]; rfl⟩
section
variable {B : Bs} {K : Fr} {ρ : En} {Q : R → En → Prop}
theorem we_sl3S {j : Nat} {ns : List Int} {t1 t2 t3 : TO} (hj : ρ[j]? = some (some (.scr ns))) (h : WO B K t1 ρ fun _ ρ2 => WO B K t2 ρ2 fun _ ρ3 => WO B K t3 ρ3 fun st ρ4 => st ≠ some 0 ∧ ∀ ms : List Int, ms.length ≤ ns.length → Q (.new (ms.map .int)) ρ4) : WE B K (tSl3 K (tVar j) t1 t2 t3) ρ Q := fun F H σ E QQ k => by
  obtain ⟨v, e, a, hv, hs⟩ := E.sl j _ hj
  subst hv
  refine ⟨.ref a, e, h F H σ E _ fun lo F2 H2 ρ2 E2 e2 q2 => q2 F2 H2 σ E2 _ fun hi F3 H3 ρ3 E3 e3 q3 => q3 F3 H3 σ E3 _ fun st F4 H4 ρ4 E4 e4 ⟨ne, q4⟩ => ⟨ne, a, ns.map V.int, rfl, E4.fh.sl (((e2.trans e3).trans e4).sl hs), fun p ys hp hm hl => ?_⟩⟩
  obtain ⟨ms, rfl⟩ := ints_of hm
  rw [List.length_map, List.length_map] at hl
  obtain ⟨E5, r5⟩ := new_ok E4 hp (RpA.of_ints (K := K) (F := F4) ms)
  exact k _ _ F4 _ ρ4 E5 ((e2.trans e3).trans e4) r5 (q4 ms hl)
end
/-! ### text * int -/
def srepS (x : Str) (n : Int) : Str := if n < 1 then Str.empty else if (n == 1 || x.length == 0) = true then x else ⟨(List.replicate n.toNat x.cps).foldl (· ++ ·) #[]⟩
def rSrep : R2 := fun x y H Q => ∃ a n, x = .str a ∧ y = .int n ∧ -1000000 ≤ n ∧ n ≤ 1000000 ∧ a.length * n.toNat ≤ 1000000 ∧ Q (.str (srepS a n)) H
theorem foldl_size (x : Array Nat) : ∀ (k : Nat) (a : Array Nat), ((List.replicate k x).foldl (· ++ ·) a).size = a.size + x.size * k
  | 0, a => by simp
  | k + 1, a => by
    rw [List.replicate_succ, List.foldl_cons, foldl_size x k, Array.size_append, Nat.mul_succ]
    omega
theorem srepS_len (x : Str) (n : Int) : (srepS x n).length = x.length * n.toNat := by
  unfold srepS
  split
  · rename_i h
    rw [show n.toNat = 0 by omega, Nat.mul_zero]
    rfl
  · split
    · rename_i h
      rw [Bool.or_eq_true, beq_iff_eq, beq_iff_eq] at h
      rcases h with h | h
      · rw [h]; exact (Nat.mul_one _).symm
      · rw [h, Nat.zero_mul]
    · show Array.size _ = _
      rw [foldl_size]
      show 0 + x.length * n.toNat = _
      omega
theorem op_srep {X : Cx} : OpR X (binaryOp .Mult) rSrep := by
  intro pins s σ H x y v u Q I rx ry h
  obtain ⟨a, n, rfl, rfl, h1, h2, h3, q⟩ := h
  obtain ⟨t, rfl⟩ := rx
  obtain ⟨t', rfl⟩ := ry
  have hl := srepS_len a n
  refine P.mul_str (by rw [decide_eq_false (by omega), decide_eq_false (by omega)]; rfl) (fun k1 _ hc => ?_) (fun _ _ => ?_) ?_
  · have hn : 0 < n := by omega
    have e1 : (a.length : Int) ≤ 1000000 := by
      have : a.length * 1 ≤ a.length * n.toNat := Nat.mul_le_mul_left _ (by omega)
      omega
    have e2 : (1000000 : Int) ≤ (2 ^ 63 - 1) / n := by
      rw [Int.le_ediv_iff_mul_le hn]
      have : (1000000 : Int) * n ≤ 1000000 * 1000000 := Int.mul_le_mul_of_nonneg_left h2 (by omega)
      omega
    omega
  · unfold Builtin.Str.tooLong
    exact decide_eq_false (by have : (1000000 : Nat) ≤ sizeLine := by decide
                              omega)
  · unfold srepS at q
    split
    · rename_i k
      rw [if_pos k] at q
      exact ⟨by decide, .str _, H, I.tok _, ⟨_, rfl⟩, q⟩
    · rename_i k
      rw [if_neg k] at q
      split
      · rename_i k2
        rw [if_pos k2] at q
        exact ⟨.str _, H, I, ⟨_, rfl⟩, q⟩
      · rename_i k2
        rw [if_neg k2] at q
        refine ⟨?_, .str _, H, I.tok _, ⟨_, rfl⟩, q⟩
        have e := foldl_size a.cps n.toNat #[]
        have e2 : (1000000 : Nat) ≤ sizeLine := by decide
        show Array.size _ ≤ sizeLine
        rw [e]
        show 0 + a.length * n.toNat ≤ sizeLine
        omega
section
variable {B : Bs} {K : Fr} {ρ : En} {ta tb : TE} {QD : PyData → En → Prop}
theorem wd_srep (h : WD B K ta ρ fun x ρ1 => ∃ a, x = .str a ∧ WD B K tb ρ1 fun y ρ2 => ∃ n, y = .int n ∧ (-1000000 ≤ n ∧ n ≤ 1000000 ∧ a.length * n.toNat ≤ 1000000) ∧ QD (.str (srepS a n)) ρ2) : WD B K (tOp rSrep ta tb) ρ QD := fun F H σ E QQ k =>
  h F H σ E _ fun v x F1 H1 ρ1 E1 e1 rv ⟨a, hx, q⟩ => q F1 H1 σ E1 _ fun u y F2 H2 ρ2 E2 e2 ru ⟨n, hy, ⟨h1, h2, h3⟩, q2⟩ => by
    subst hx hy
    cases rv; cases ru
    exact ⟨a, n, rfl, rfl, h1, h2, h3, k _ _ F2 H2 ρ2 E2 (e1.trans e2) (.str _) q2⟩
theorem wd_dnew (q : QD (.dict []) ρ) : WD B K tDNewK ρ QD := fun F H σ E QQ k p hp => by
  obtain ⟨E2, e2⟩ := E.alloc (o := .dK []) hp
  exact k _ _ _ _ ρ E2 e2 (.dct upd_same) q
end
end SV

set_option maxHeartbeats 1000000
namespace SV
open PySem PySem.Spec L2
open Evl (Ex)
/-! ### places within an own thing -/
def OT.kids : OT → List OT
  | .d _ => []
  | .lst _ ts => ts
  | .tup _ ts => ts
  | .dct _ _ ts => ts
def OT.setKids : OT → List OT → OT
  | .d x, _ => .d x
  | .lst a _, ts => .lst a ts
  | .tup a _, ts => .tup a ts
  | .dct a ks _, ts => .dct a ks ts
def OT.adr : OT → List Addr
  | .d _ => []
  | .lst a _ => [a]
  | .tup a _ => [a]
  | .dct a _ _ => [a]
def OT.at : List Nat → OT → Option OT
  | [], t => some t
  | i :: π, t => match t.kids[i]? with
    | some u => OT.at π u
    | none => none
def OT.put : List Nat → OT → OT → OT
  | [], _, n => n
  | i :: π, t, n => match t.kids[i]? with
    | some u => t.setKids (t.kids.set i (OT.put π u n))
    | none => t
/-- what reading a place gives: data, or where the thing stands -/
def OT.r : OT → R
  | .d x => .d x
  | .lst a _ => .raw (.ref a)
  | .tup a _ => .raw (.ref a)
  | .dct a _ _ => .raw (.ref a)
/-- what taking it out gives -/
def OT.rO : OT → R
  | .d x => .d x
  | .lst a ts => .deep (.lst a ts)
  | .tup a ts => .deep (.tup a ts)
  | .dct a ks ts => .deep (.dct a ks ts)
/-- a value as a part of an own thing -/
def Kid : R → (OT → Prop) → Prop
  | .d x, k => k (.d x)
  | .new xs, k => ∀ b, k (.lst b (xs.map .d))
  | .deep t, k => k t
  | .newD ks xs, k => ∀ b, k (.dct b ks (xs.map .d))
  | _, _ => False
section
variable {K : Fr} {F H H' : Hp}
theorem OT.fp_eq : ∀ t : OT, t.fp = t.adr ++ fps t.kids
  | .d _ => rfl
  | .lst _ _ => rfl
  | .tup _ _ => rfl
  | .dct _ _ _ => rfl
theorem fps_mid (pre post : List OT) (c : OT) : fps (pre ++ c :: post) = fps pre ++ (c.fp ++ fps post) := by rw [fps_app]; rfl
theorem kid_split {ts : List OT} {i : Nat} {c : OT} (h : ts[i]? = some c) : ∃ pre post, ts = pre ++ c :: post ∧ ∀ c', ts.set i c' = pre ++ c' :: post := by
  have e := split_at h
  have hl : (ts.take i).length = i := by
    rw [List.length_take]
    have := (List.getElem?_eq_some_iff.mp h).1
    omega
  refine ⟨ts.take i, ts.drop (i + 1), e, fun c' => ?_⟩
  have e2 : ts.set i c' = (ts.take i ++ c :: ts.drop (i + 1)).set (ts.take i).length c' := by rw [← e, hl]
  rw [e2, List.set_append_right _ _ (Nat.le_refl _), Nat.sub_self]
  rfl
theorem OtA.mid : ∀ {pre post : List OT} {c : OT} {vs : List V}, OtA K F H vs (pre ++ c :: post) → ∃ v1 w v2, vs = v1 ++ w :: v2 ∧ OtA K F H v1 pre ∧ Ot K F H w c ∧ OtA K F H v2 post
  | [], _, _, _, .cons h r => ⟨[], _, _, rfl, .nil, h, r⟩
  | _ :: _, _, _, _, .cons h r => by
    obtain ⟨v1, w, v2, rfl, h1, h2, h3⟩ := OtA.mid r
    exact ⟨_ :: v1, w, v2, rfl, .cons h h1, h2, h3⟩
theorem Ot.kid {v : V} {t u : OT} {i : Nat} (h : Ot K F H v t) (e : t.kids[i]? = some u) : (∃ w, Ot K F H w u) ∧ ∀ a, a ∈ u.fp → a ∈ fps t.kids := by
  refine ⟨?_, fun a ha => fp_sub (List.mem_of_getElem? e) ha⟩
  cases h with
  | d _ => cases e
  | lst _ _ h => obtain ⟨w, _, q⟩ := h.get' e; exact ⟨w, q⟩
  | tup _ _ h => obtain ⟨w, _, q⟩ := h.get' e; exact ⟨w, q⟩
  | dct _ _ _ h => obtain ⟨w, _, q⟩ := h.get' e; exact ⟨w, q⟩
theorem Ot.at : ∀ (π : List Nat) {t u : OT} {v : V}, Ot K F H v t → t.at π = some u → (∃ w, Ot K F H w u) ∧ ∀ a, a ∈ u.fp → a ∈ t.fp
  | [], t, u, v, h, e => by cases e; exact ⟨⟨v, h⟩, fun _ h => h⟩
  | i :: π, t, u, v, h, e => by
    unfold OT.at at e
    cases q : t.kids[i]? with
    | none => rw [q] at e; cases e
    | some c =>
      rw [q] at e
      obtain ⟨⟨w, hw⟩, hs⟩ := h.kid q
      obtain ⟨k1, k2⟩ := Ot.at π hw e
      exact ⟨k1, fun a ha => by rw [OT.fp_eq]; exact List.mem_append_right _ (hs a (k2 a ha))⟩
theorem nd_kid {t u : OT} {i : Nat} (nd : t.fp.Nodup) (e : t.kids[i]? = some u) : u.fp.Nodup := by
  rw [OT.fp_eq] at nd
  obtain ⟨pre, post, e1, _⟩ := kid_split e
  rw [e1, fps_mid] at nd
  exact (List.nodup_append.mp (List.nodup_append.mp (List.nodup_append.mp nd).2.1).2.1).1
theorem nd_at : ∀ (π : List Nat) {t u : OT}, t.fp.Nodup → t.at π = some u → u.fp.Nodup
  | [], t, u, nd, e => by cases e; exact nd
  | i :: π, t, u, nd, e => by
    unfold OT.at at e
    cases q : t.kids[i]? with
    | none => rw [q] at e; cases e
    | some c => rw [q] at e; exact nd_at π (nd_kid nd q) e
theorem ot_put {u u' : OT} : ∀ (π : List Nat) {t : OT} {v : V}, Ot K F H v t → t.fp.Nodup → t.at π = some u → (∀ w, Ot K F H w u → Ot K F H' w u') → (∀ b, b ∈ t.fp → b ∉ u.fp → H' b = H b) → Ot K F H' v (t.put π u')
  | [], t, v, h, nd, e, hu, hk => by cases e; exact hu v h
  | i :: π, t, v, h, nd, e, hu, hk => by
    unfold OT.at at e
    unfold OT.put
    cases q : t.kids[i]? with
    | none => rw [q] at e; cases e
    | some c =>
      rw [q] at e
      have ndc := nd_kid nd q
      have hsub : ∀ b, b ∈ u.fp → b ∈ c.fp := by
        obtain ⟨⟨w, hw⟩, _⟩ := h.kid q
        exact (Ot.at π hw e).2
      obtain ⟨pre, post, e1, e2⟩ := kid_split q
      have nd' := nd
      rw [OT.fp_eq, e1, fps_mid] at nd'
      obtain ⟨_, n2, n3⟩ := List.nodup_append.mp nd'
      obtain ⟨_, n5, n6⟩ := List.nodup_append.mp n2
      obtain ⟨_, _, n9⟩ := List.nodup_append.mp n5
      have key : ∀ {vs : List V}, OtA K F H vs t.kids → OtA K F H' vs (t.kids.set i (OT.put π c u')) := fun {vs} ha => by
        show OtA K F H' vs (t.kids.set i (OT.put π c u'))
        rw [e2]
        rw [e1] at ha
        obtain ⟨v1, w, v2, rfl, h1, h2, h3⟩ := ha.mid
        have hin : ∀ b, b ∈ fps (pre ++ c :: post) → b ∈ t.fp := fun b hb => by rw [OT.fp_eq, e1]; exact List.mem_append_right _ hb
        refine (h1.mono (Ex.refl F) fun b hb => ⟨(h1.live hb).1, hk b (hin b (by rw [fps_mid]; exact List.mem_append_left _ hb)) fun z => n6 b hb b (List.mem_append_left _ (hsub b z)) rfl⟩).append (.cons ?_ (h3.mono (Ex.refl F) fun b hb => ⟨(h3.live hb).1, hk b (hin b (by rw [fps_mid]; exact List.mem_append_right _ (List.mem_append_right _ hb))) fun z => n9 b (hsub b z) b hb rfl⟩))
        exact ot_put π h2 ndc e hu fun b hb => hk b (hin b (by rw [fps_mid]; exact List.mem_append_right _ (List.mem_append_left _ hb)))
      have top : ∀ a, a ∈ t.adr → H' a = H a := fun a ha => hk a (by rw [OT.fp_eq]; exact List.mem_append_left _ ha) fun z => n3 a ha a (List.mem_append_right _ (List.mem_append_left _ (hsub a z))) rfl
      cases h with
      | d _ => cases q
      | lst h1 h2 h3 => exact .lst h1 ((top _ (List.mem_singleton.mpr rfl)).trans h2) (key h3)
      | tup h1 h2 h3 => exact .tup h1 ((top _ (List.mem_singleton.mpr rfl)).trans h2) (key h3)
      | dct h1 h2 hl h3 => exact .dct h1 ((top _ (List.mem_singleton.mpr rfl)).trans h2) (by rw [hl]; exact (List.length_set ..).symm) (key h3)
theorem fp_put {u u' : OT} : ∀ (π : List Nat) {t : OT}, t.fp.Nodup → t.at π = some u → u'.fp.Nodup → (∀ b, b ∈ u'.fp → b ∈ u.fp ∨ b ∉ t.fp) → (t.put π u').fp.Nodup ∧ ∀ b, b ∈ (t.put π u').fp → (b ∈ t.fp ∧ b ∉ u.fp) ∨ b ∈ u'.fp
  | [], t, nd, e, nu, hb => ⟨nu, fun b h => .inr h⟩
  | i :: π, t, nd, e, nu, hb => by
    unfold OT.at at e
    unfold OT.put
    cases q : t.kids[i]? with
    | none => rw [q] at e; cases e
    | some c =>
      rw [q] at e
      have ndc := nd_kid nd q
      obtain ⟨pre, post, e1, e2⟩ := kid_split q
      have nd' := nd
      rw [OT.fp_eq, e1, fps_mid] at nd'
      have hin : ∀ b, b ∈ t.fp ↔ b ∈ t.adr ∨ b ∈ fps pre ∨ b ∈ c.fp ∨ b ∈ fps post := fun b => by
        rw [OT.fp_eq, e1, fps_mid]
        simp only [List.mem_append]
      have hsub : ∀ {π : List Nat} {c u : OT}, c.at π = some u → ∀ b, b ∈ u.fp → b ∈ c.fp := by
        intro π
        induction π with
        | nil => intro c u e b h; cases e; exact h
        | cons j π ih =>
          intro c u e b h
          unfold OT.at at e
          cases q : c.kids[j]? with
          | none => rw [q] at e; cases e
          | some d =>
            rw [q] at e
            rw [OT.fp_eq]
            exact List.mem_append_right _ (fp_sub (List.mem_of_getElem? q) (ih e b h))
      have su := hsub e
      obtain ⟨k1, k2⟩ := fp_put π ndc e nu fun b h => (hb b h).elim .inl fun n => .inr fun z => n ((hin b).mpr (.inr (.inr (.inl z))))
      obtain ⟨n1, n2, n3⟩ := List.nodup_append.mp nd'
      obtain ⟨n4, n5, n6⟩ := List.nodup_append.mp n2
      obtain ⟨n7, n8, n9⟩ := List.nodup_append.mp n5
      have out : ∀ b, b ∈ (OT.put π c u').fp → b ∈ c.fp ∨ b ∉ t.fp := fun b h => (k2 b h).elim (fun z => .inl z.1) fun z => (hb b z).elim (fun y => .inl (su b y)) .inr
      have e3 : (t.setKids (t.kids.set i (OT.put π c u'))).fp = t.adr ++ (fps pre ++ ((OT.put π c u').fp ++ fps post)) := by
        rw [e2]
        cases t with
        | d _ => cases q
        | _ => exact congrArg (_ :: ·) (fps_mid _ _ _)
      show (t.setKids (t.kids.set i (OT.put π c u'))).fp.Nodup ∧ ∀ b, b ∈ (t.setKids (t.kids.set i (OT.put π c u'))).fp → _
      rw [e3]
      have inT1 : ∀ b, b ∈ t.adr → b ∈ t.fp := fun b h => (hin b).mpr (.inl h)
      have inT2 : ∀ b, b ∈ fps pre → b ∈ t.fp := fun b h => (hin b).mpr (.inr (.inl h))
      have inT3 : ∀ b, b ∈ fps post → b ∈ t.fp := fun b h => (hin b).mpr (.inr (.inr (.inr h)))
      refine ⟨List.nodup_append.mpr ⟨n1, List.nodup_append.mpr ⟨n4, List.nodup_append.mpr ⟨k1, n8, fun a ha b hb' z => ?_⟩, fun a ha b hb' z => ?_⟩, fun a ha b hb' z => ?_⟩, fun b h => ?_⟩
      · subst z
        rcases out a ha with k | k
        · exact n9 a k a hb' rfl
        · exact k (inT3 a hb')
      · subst z
        rcases List.mem_append.mp hb' with h | h
        · rcases out a h with k | k
          · exact n6 a ha a (List.mem_append_left _ k) rfl
          · exact k (inT2 a ha)
        · exact n6 a ha a (List.mem_append_right _ h) rfl
      · subst z
        rcases List.mem_append.mp hb' with h | h
        · exact n3 a ha a (List.mem_append_left _ h) rfl
        · rcases List.mem_append.mp h with h | h
          · rcases out a h with k | k
            · exact n3 a ha a (List.mem_append_right _ (List.mem_append_left _ k)) rfl
            · exact k (inT1 a ha)
          · exact n3 a ha a (List.mem_append_right _ (List.mem_append_right _ h)) rfl
      · rcases List.mem_append.mp h with h | h
        · exact .inl ⟨inT1 b h, fun z => n3 b h b (List.mem_append_right _ (List.mem_append_left _ (su b z))) rfl⟩
        · rcases List.mem_append.mp h with h | h
          · exact .inl ⟨inT2 b h, fun z => n6 b h b (List.mem_append_left _ (su b z)) rfl⟩
          · rcases List.mem_append.mp h with h | h
            · rcases k2 b h with ⟨k, k'⟩ | k
              · exact .inl ⟨(hin b).mpr (.inr (.inr (.inl k))), k'⟩
              · exact .inr k
            · exact .inl ⟨inT3 b h, fun z => n9 b (su b z) b h rfl⟩
theorem fps_set_sub : ∀ {ts : List OT} {n : Nat} {x : PyData} {b : Addr}, b ∈ fps (ts.set n (.d x)) → b ∈ fps ts
  | [], _, _, _, h => h
  | t :: ts, 0, _, _, h => List.mem_append_right _ h
  | t :: ts, n + 1, _, _, h => (List.mem_append.mp (show _ ∈ t.fp ++ fps (ts.set n _) from h)).elim (List.mem_append_left _) fun k => List.mem_append_right _ (fps_set_sub k)
theorem fps_set_nd : ∀ {ts : List OT} {n : Nat} {x : PyData}, (fps ts).Nodup → (fps (ts.set n (.d x))).Nodup
  | [], _, _, h => h
  | t :: ts, 0, _, h => (List.nodup_append.mp h).2.1
  | t :: ts, n + 1, _, h => by
    obtain ⟨h1, h2, h3⟩ := List.nodup_append.mp h
    exact List.nodup_append.mpr ⟨h1, fps_set_nd h2, fun a ha b hb => h3 a ha b (fps_set_sub hb)⟩
end
section
variable {B : Bs} {K : Fr} {F H : Hp} {σ : L2.St} {ρ : En} {te to ti : TE} {tr tl : TA} {Q : R → En → Prop} {QD : PyData → En → Prop} {Z : Zs}
/-- where a list within an own thing stands -/
theorem EnvOk.list_at (E : EnvOk B K F H σ ρ) {i : Nat} {t : OT} {π : List Nat} {a : Addr} {ts : List OT} (h : ρ[i]? = some (some (.deep t))) (hat : t.at π = some (.lst a ts)) :
    SFp σ ρ i a ∧ ∃ vs, H a = some (.lst vs) ∧ OtA K F H vs ts := by
  obtain ⟨v, e, s, nd⟩ := E.sl i _ h
  obtain ⟨⟨w, hw⟩, hs⟩ := Ot.at π s hat
  cases hw with
  | lst h1 h2 h3 => exact ⟨⟨_, v, h, e, hs a List.mem_cons_self⟩, _, h2, h3⟩
/-- a list within an own thing is written -/
theorem EnvOk.writeT (E : EnvOk B K F H σ ρ) {i : Nat} {t : OT} {π : List Nat} {a : Addr} {ts ts' : List OT} {ws : List V} (h : ρ[i]? = some (some (.deep t))) (np : NP B i) (hat : t.at π = some (.lst a ts))
    (hw : OtA K F H ws ts') (nd' : (fps ts').Nodup) (hf : ∀ b, b ∈ fps ts' → b ∈ fps ts ∨ (B.H0 b = none ∧ ∀ j, ¬ SFp σ ρ j b)) :
    EnvOk B K F (upd H a (.lst ws)) σ (ρ.set i (some (.deep (t.put π (.lst a ts'))))) := by
  obtain ⟨fa, vs, k2, k3⟩ := E.list_at h hat
  obtain ⟨v, e, s, nd⟩ := E.sl i _ h
  have ndu := nd_at π nd hat
  have ha : a ∉ fps ts' := fun z => by
    rcases hf a z with k | k
    · exact (List.nodup_cons.mp (show (a :: fps ts).Nodup from ndu)).1 k
    · exact k.2 i fa
  have hs := (Ot.at π s hat).2
  have fr : ∀ b, (B.H0 b = none ∧ ∀ j, ¬ SFp σ ρ j b) → b ∉ t.fp := fun b k z => k.2 i ⟨_, v, h, e, z⟩
  obtain ⟨p1, p2⟩ := fp_put (u' := .lst a ts') π nd hat (List.nodup_cons.mpr ⟨ha, nd'⟩) fun b hb => (List.mem_cons.mp hb).elim (fun z => .inl (by subst z; exact List.mem_cons_self)) fun z => (hf b z).elim (fun y => .inl (List.mem_cons_of_mem _ y)) fun y => .inr (fr b y)
  have s' : Ot K F (upd H a (.lst ws)) v (t.put π (.lst a ts')) := by
    refine ot_put π s nd hat (fun w hwu => ?_) fun b hb hn => upd_ne fun z => hn (by subst z; exact List.mem_cons_self)
    cases hwu with
    | lst h1 h2 h3 => exact .lst h1 upd_same (hw.mono (Ex.refl F) fun b hb => ⟨(hw.live hb).1, upd_ne fun z => ha (by rw [← z]; exact hb)⟩)
  refine E.put h e (E.st_write fa) ⟨s', p1⟩ (fun j b n hb => upd_ne fun z => n (E.sep j i b hb (by subst z; exact fa))) (fun b hb => ?_) (.inr (.inr np))
  rcases p2 b hb with ⟨k, _⟩ | k
  · exact .inl k
  · rcases List.mem_cons.mp k with z | k
    · subst z; exact .inl (hs b List.mem_cons_self)
    · rcases hf b k with k | k
      · exact .inl (hs b (List.mem_cons_of_mem _ k))
      · exact .inr k
/-- a value as a part -/
theorem kid_ok {v : V} {r : R} {k : OT → Prop} (rv : ROk B K F H σ ρ v r) (h : Kid r k) : ∃ u, Ot K F H v u ∧ u.fp.Nodup ∧ Free B σ ρ u.fp ∧ k u := by
  cases r with
  | d x => exact ⟨.d x, .d rv, List.nodup_nil, (fun a h => nomatch h), h⟩
  | new xs =>
    obtain ⟨a, vs, rfl, k1, k2, k3, k4, k5⟩ := rv
    have e : (OT.lst a (xs.map .d)).fp = [a] := congrArg (a :: ·) (fps_map_d xs)
    exact ⟨.lst a (xs.map .d), .lst k1 k2 (.of_rp k3), by rw [e]; simp, by rw [e]; intro b hb; rw [List.mem_singleton.mp hb]; exact ⟨k4, k5⟩, h a⟩
  | scr ns => exact h.elim
  | raw w => exact h.elim
  | deep t => exact ⟨t, rv.1, rv.2.1, rv.2.2, h⟩
  | newD ks xs =>
    obtain ⟨a, vs, rfl, k1, k2, hl, k3, k4, k5⟩ := rv
    have e : (OT.dct a ks (xs.map .d)).fp = [a] := congrArg (a :: ·) (fps_map_d xs)
    exact ⟨.dct a ks (xs.map .d), .dct k1 k2 (by rw [List.length_map]; exact hl) (.of_rp k3), by rw [e]; simp, by rw [e]; intro b hb; rw [List.mem_singleton.mp hb]; exact ⟨k4, k5⟩, h a⟩
/-! ### rules -/
/-- an own list, by its place -/
theorem ws_deep {t : TS} {j : Nat} {xs : List PyData} (hj : ρ[j]? = some (some (.own xs))) (np : NP B j) (h : ∀ a, WS B K t (ρ.set j (some (.deep (.lst a (xs.map .d))))) Z) : WS B K t ρ Z := fun F H σ E D ok => by
  obtain ⟨a, vs, e, k1, k2, k3⟩ := E.own_at hj
  refine h a F H σ (E.put hj e E.st ⟨.lst k1 k2 (.of_rp k3), ?_⟩ (fun _ _ _ _ => rfl) (fun b hb => .inl ?_) (.inr (.inr np))) D ok
  · show (a :: fps (xs.map .d)).Nodup
    rw [fps_map_d]; simp
  · have : b ∈ a :: fps (xs.map .d) := hb
    rw [fps_map_d] at this
    rw [List.mem_singleton.mp this]
    rfl
theorem ws_flat {t : TS} {j : Nat} {a : Addr} {xs : List PyData} (hj : ρ[j]? = some (some (.deep (.lst a (xs.map .d))))) (np : NP B j) (h : WS B K t (ρ.set j (some (.own xs))) Z) : WS B K t ρ Z := fun F H σ E D ok => by
  obtain ⟨v, e, s, nd⟩ := E.sl j _ hj
  cases s with
  | lst k1 k2 k3 => exact h F H σ (E.put hj e E.st ⟨a, _, rfl, k1, k2, k3.to_rp⟩ (fun _ _ _ _ => rfl) (fun b hb => .inl (by cases (show V.ref a = V.ref b from hb); exact List.mem_cons_self)) (.inr (.inr np))) D ok
/-- a slot's own thing, read -/
theorem we_ptr {j : Nat} {t : OT} (hj : ρ[j]? = some (some (.deep t))) (q : Q t.r ρ) : WE B K (tVar j) ρ Q := fun F H σ E QQ k => by
  obtain ⟨v, e, s, nd⟩ := E.sl j _ hj
  refine ⟨v, e, k v t.r F H ρ E (Ex.refl F) ?_ q⟩
  cases s with
  | d h => exact h
  | lst _ _ _ => exact rfl
  | tup _ _ _ => exact rfl
  | dct _ _ _ _ => exact rfl
theorem OtA.atI {vs : List V} {ts : List OT} {i : Int} {u : OT} (r : OtA K F H vs ts) (h : atI ts i = some u) : ∃ v, L2.atI vs i = some v ∧ Ot K F H v u := by
  unfold L2.atI at h ⊢
  rw [r.length]
  cases e : ixN ts.length i with
  | none => rw [e] at h; cases h
  | some j =>
    rw [e] at h
    exact r.get' (i := j) h
/-- p[i], p a place -/
theorem we_ixP (h : WE B K to ρ fun r ρ1 => ∃ a, r = .raw (.ref a) ∧ WD B K ti ρ1 fun y ρ2 => ∃ (j : Nat) (t : OT) (π : List Nat) (ts : List OT) (i : Int) (u : OT), y = .int i ∧ ρ2[j]? = some (some (.deep t)) ∧ (t.at π = some (.lst a ts) ∨ t.at π = some (.tup a ts)) ∧ atI ts i = some u ∧ Q u.r ρ2) : WE B K (tOp (rIx K) to ti) ρ Q := fun F H σ E QQ k =>
  h F H σ E _ fun v r F1 H1 ρ1 E1 e1 rv ⟨a, hr, q⟩ => by
    subst hr
    cases (show v = .ref a from rv)
    refine q F1 H1 σ E1 _ fun w y F2 H2 ρ2 E2 e2 ry ⟨j, t, π, ts, i, u, hy, hj, hat, hu, q2⟩ => ?_
    subst hy
    cases ry
    obtain ⟨v, e, s, nd⟩ := E2.sl j _ hj
    have fin : ∀ {vs : List V}, OtA K F2 H2 vs ts → ∃ w, atI vs i = some w ∧ QQ w H2 := fun {vs} hs => by
      obtain ⟨w, hw, ow⟩ := hs.atI hu
      refine ⟨w, hw, k w u.r F2 H2 ρ2 E2 (e1.trans e2) ?_ q2⟩
      cases ow with
      | d h => exact h
      | lst _ _ _ => exact rfl
      | tup _ _ _ => exact rfl
      | dct _ _ _ _ => exact rfl
    rcases hat with hat | hat
    · obtain ⟨⟨w, hw⟩, _⟩ := Ot.at π s hat
      cases hw with
      | lst h1 h2 h3 =>
        obtain ⟨w, hw, q3⟩ := fin h3
        exact .inl ⟨a, _, i, w, rfl, rfl, .inl (.inl h2), hw, q3⟩
    · obtain ⟨⟨w, hw⟩, _⟩ := Ot.at π s hat
      cases hw with
      | tup h1 h2 h3 =>
        obtain ⟨w, hw, q3⟩ := fin h3
        exact .inr (.inl ⟨a, _, i, w, rfl, rfl, .inl (.inl h2), hw, q3⟩)
/-- p.append(e), p a place -/
theorem we_appendP (h : WE B K to ρ fun r ρ1 => ∃ a, r = .raw (.ref a) ∧ (∃ (j : Nat) (t : OT) (π : List Nat) (ts : List OT), ρ1[j]? = some (some (.deep t)) ∧ t.at π = some (.lst a ts)) ∧ WE B K te ρ1 fun r2 ρ2 => ∃ (j : Nat) (t : OT) (π : List Nat) (ts : List OT), NP B j ∧ ρ2[j]? = some (some (.deep t)) ∧ t.at π = some (.lst a ts) ∧ ts.length < lim ∧
      Kid r2 fun u => Q (.d .none) (ρ2.set j (some (.deep (t.put π (.lst a (ts ++ [u]))))))) : WE B K (tBM K "list" rAppend to (tCons te tNil)) ρ Q := fun F H σ E QQ k =>
  h F H σ E _ fun v r F1 H1 ρ1 E1 e1 rv ⟨a, hr, ⟨j0, t0, π0, ts0, hj0, hat0⟩, q⟩ => by
    subst hr
    cases (show v = .ref a from rv)
    obtain ⟨_, vs0, hv0, _⟩ := E1.list_at hj0 hat0
    refine ⟨.inl ⟨rfl, vs0, .inl (.inl hv0)⟩, q F1 H1 σ E1 _ fun w r2 F2 H2 ρ2 E2 e2 rw' ⟨j, t, π, ts, np, hj, hat, hz, kd⟩ => ?_⟩
    obtain ⟨u, ou, ndu, fu, q2⟩ := kid_ok rw' kd
    obtain ⟨fa, vs, hv, os⟩ := E2.list_at hj hat
    obtain ⟨v, e, s, nd⟩ := E2.sl j _ hj
    have ndl : (a :: fps ts).Nodup := nd_at π nd hat
    have hs := (Ot.at π s hat).2
    have E3 := E2.writeT hj np hat (ts' := ts ++ [u]) (os.append (.cons ou .nil)) (by
        rw [fps_app]
        refine List.nodup_append.mpr ⟨(List.nodup_cons.mp ndl).2, ?_, fun b hb c hc z => ?_⟩
        · show (u.fp ++ []).Nodup
          rw [List.append_nil]; exact ndu
        · subst z
          have hc' : b ∈ u.fp ++ [] := hc
          rw [List.append_nil] at hc'
          exact (fu b hc').2 j ⟨_, v, hj, e, hs b (List.mem_cons_of_mem _ hb)⟩) fun b hb => by
        rw [fps_app] at hb
        rcases List.mem_append.mp hb with h | h
        · exact .inl h
        · have h' : b ∈ u.fp ++ [] := h
          rw [List.append_nil] at h'
          exact .inr (fu b h')
    exact ⟨a, vs, w, rfl, rfl, hv, by rw [os.length]; exact lim_lt hz, k _ (.d .none) F2 _ _ E3 (e1.trans e2) Rp.non q2⟩
/-- p.pop(), p a place -/
theorem we_popP (h : WE B K to ρ fun r ρ1 => ∃ a, r = .raw (.ref a) ∧ ∃ (j : Nat) (t : OT) (π : List Nat) (ts : List OT) (u : OT), NP B j ∧ ρ1[j]? = some (some (.deep t)) ∧ t.at π = some (.lst a ts) ∧ ts[ts.length - 1]? = some u ∧ Q u.rO (ρ1.set j (some (.deep (t.put π (.lst a ts.dropLast)))))) : WE B K (tBM0 K "list" rPop to) ρ Q := fun F H σ E QQ k =>
  h F H σ E _ fun v r F1 H1 ρ1 E1 e1 rv ⟨a, hr, j, t, π, ts, u, np, hj, hat, hu, q⟩ => by
    subst hr
    cases (show v = .ref a from rv)
    obtain ⟨fa, vs, hv, os⟩ := E1.list_at hj hat
    obtain ⟨v, e, s, nd⟩ := E1.sl j _ hj
    have ndl : (a :: fps ts).Nodup := nd_at π nd hat
    have hs := (Ot.at π s hat).2
    have sp : ts = ts.dropLast ++ [u] := by
      have hne : ts ≠ [] := fun z => by rw [z] at hu; cases hu
      have e2 := List.dropLast_concat_getLast hne
      rw [List.getLast_eq_getElem] at e2
      rw [List.getElem?_eq_getElem (by have := List.length_pos_iff.mpr hne; omega)] at hu
      rw [Option.some.inj hu] at e2
      exact e2.symm
    have e3 : fps ts = fps ts.dropLast ++ u.fp := by
      have e4 := congrArg fps sp
      rw [fps_app] at e4
      rw [e4]
      show fps ts.dropLast ++ (u.fp ++ []) = _
      rw [List.append_nil]
    have ndl' := ndl
    rw [e3] at ndl'
    obtain ⟨na, nf⟩ := List.nodup_cons.mp ndl'
    obtain ⟨n1, n2, n3⟩ := List.nodup_append.mp nf
    have E3 := E1.writeT hj np hat (ts' := ts.dropLast) os.dropLast n1 fun b hb => .inl (by rw [e3]; exact List.mem_append_left _ hb)
    obtain ⟨w, hw, ow⟩ := os.get' hu
    rw [← os.length] at hw
    refine ⟨.inl ⟨rfl, vs, .inl (.inl hv)⟩, a, vs, w, rfl, rfl, hv, hw, k w u.rO F1 _ _ E3 e1 ?_ q⟩
    have inu : ∀ b, b ∈ u.fp → b ∈ t.fp := fun b hb => hs b (List.mem_cons_of_mem _ (by rw [e3]; exact List.mem_append_right _ hb))
    have p2 := (fp_put (u' := .lst a ts.dropLast) π nd hat (List.nodup_cons.mpr ⟨fun z => na (List.mem_append_left _ z), n1⟩) fun b hb => (List.mem_cons.mp hb).elim (fun z => .inl (by subst z; exact List.mem_cons_self)) fun z => .inl (List.mem_cons_of_mem _ (by rw [e3]; exact List.mem_append_left _ z))).2
    have fr : Free B σ (ρ1.set j (some (.deep (t.put π (.lst a ts.dropLast))))) u.fp := fun b hb => by
      refine ⟨(E1.mine j b ⟨_, v, hj, e, inu b hb⟩).elim id fun z => absurd z (np b), fun i ⟨m, w, q1, q2, q3⟩ => ?_⟩
      rcases set_cases q1 with ⟨rfl, _, e5⟩ | ⟨n, e5⟩
      · cases e5
        rcases p2 b q3 with ⟨_, k2⟩ | k2
        · exact k2 (List.mem_cons_of_mem _ (by rw [e3]; exact List.mem_append_right _ hb))
        · rcases List.mem_cons.mp k2 with z | z
          · subst z; exact na (List.mem_append_right _ hb)
          · exact n3 b z b hb rfl
      · exact n (E1.sep i j b ⟨m, w, e5, q2, q3⟩ ⟨_, v, hj, e, inu b hb⟩)
    have ow' : Ot K F1 (upd H1 a (.lst vs.dropLast)) w u := ow.mono (Ex.refl F1) fun b hb => ⟨(ow.live hb).1, upd_ne fun z => by subst z; exact na (List.mem_append_right _ hb)⟩
    cases u with
    | d x => cases ow' with | d h => exact h
    | lst b us => exact ⟨ow', n2, fr⟩
    | tup b us => exact ⟨ow', n2, fr⟩
    | dct b ks us => exact ⟨ow', n2, fr⟩
/-- p[i] = e, p a place -/
theorem ws_setItemP (h : WD B K te ρ fun x ρ1 => WE B K to ρ1 fun r ρ2 => ∃ a, r = .raw (.ref a) ∧ WD B K ti ρ2 fun y ρ3 => ∃ (j : Nat) (t : OT) (π : List Nat) (ts : List OT) (i : Int) (n : Nat), NP B j ∧ ρ3[j]? = some (some (.deep t)) ∧ t.at π = some (.lst a ts) ∧ y = .int i ∧ ixN ts.length i = some n ∧
      Z.nx (ρ3.set j (some (.deep (t.put π (.lst a (ts.set n (.d x)))))))) : WS B K (tAsg te (gSub to ti rSetL)) ρ Z := fun F H σ E D ok =>
  h F H σ E _ fun x0 x F1 H1 ρ1 E1 e1 rx q1 => q1 F1 H1 σ E1 _ fun v r F2 H2 ρ2 E2 e2 rv ⟨a, hr, q2⟩ => by
    subst hr
    cases (show v = .ref a from rv)
    refine q2 F2 H2 σ E2 _ fun w y F3 H3 ρ3 E3 e3 ry ⟨j, t, π, ts, i, n, np, hj, hat, hy, hn, q3⟩ => ?_
    subst hy
    cases ry
    obtain ⟨fa, vs, hv, os⟩ := E3.list_at hj hat
    obtain ⟨v, e, s, nd⟩ := E3.sl j _ hj
    have ndl : (a :: fps ts).Nodup := nd_at π nd hat
    have E4 := E3.writeT hj np hat (ts' := ts.set n (.d x)) (os.set n (.d (Rp.mono (e2.trans e3) rx))) (fps_set_nd (List.nodup_cons.mp ndl).2) fun b hb => .inl (fps_set_sub hb)
    exact ⟨a, vs, i, n, rfl, rfl, hv, by rw [os.length]; exact hn, ok.nx F3 _ _ _ E4 ((e1.trans e2).trans e3) q3⟩
/-- len of a place -/
theorem wd_lenP (h : WE B K to ρ fun r ρ1 => ∃ a, r = .raw (.ref a) ∧ ∃ (j : Nat) (t : OT) (π : List Nat) (ts : List OT), ρ1[j]? = some (some (.deep t)) ∧ t.at π = some (.lst a ts) ∧ QD (.int ts.length) ρ1) : WD B K (tCB (rLen K) (tCons to tNil)) ρ QD := fun F H σ E QQ k =>
  h F H σ E _ fun v r F1 H1 ρ1 E1 e1 rv ⟨a, hr, j, t, π, ts, hj, hat, q⟩ => by
    subst hr
    cases (show v = .ref a from rv)
    obtain ⟨fa, vs, hv, os⟩ := E1.list_at hj hat
    exact ⟨.ref a, vs.length, rfl, .inl ⟨vs, .inl (.inl hv), rfl⟩, k _ _ F1 H1 ρ1 E1 e1 (by rw [os.length]; exact .int _) q⟩
theorem wd_lenT {j : Nat} {a : Addr} {ts : List OT} (hj : ρ[j]? = some (some (.deep (.lst a ts)))) (q : QD (.int ts.length) ρ) : WD B K (tCB (rLen K) (tCons (tVar j) tNil)) ρ QD :=
  wd_lenP (we_ptr hj ⟨a, rfl, j, _, [], ts, hj, rfl, q⟩)
/-- == and != of an own thing -/
theorem deep_dp {F H : Hp} {σ : L2.St} (E : EnvOk B K F H σ ρ) {i : Nat} {t : OT} (h : ρ[i]? = some (some (.deep t))) (hd : t.isD = true) (n : noD t.data = true) {v : V} (hv : σ[i]? = some (some v)) : Dp K H v t.data := by
  obtain ⟨w, e, s, _⟩ := E.sl i _ h
  rw [hv] at e
  cases e
  exact Rp.dp (Ex.refl H) (s.rp E.fh hd fun _ _ => rfl) n
theorem wd_eqT {i : Nat} {t0 : OT} {tb : TE} (hi : ρ[i]? = some (some (.deep t0))) (h : WD B K tb ρ fun y ρ2 => ∃ t, ρ2[i]? = some (some (.deep t)) ∧ t.isD = true ∧ (noD t.data = true ∧ noD y = true ∧ SeqAt.shaped t.data = true ∧ SeqAt.shaped y = true) ∧ QD (.bool (PyData.eqv t.data y)) ρ2) : WD B K (tOp (rEqD K) (tVar i) tb) ρ QD := fun F H σ E QQ k => by
  obtain ⟨v, e, _⟩ := E.sl i _ hi
  exact ⟨v, e, h F H σ E _ fun u y F2 H2 ρ2 E2 e2 ru ⟨t, hx, hd, ⟨n1, n2, s1, s2⟩, q2⟩ => ⟨_, y, deep_dp E2 hx hd n1 e, Rp.dp E2.fh ru n2, s1, s2, k _ _ F2 H2 ρ2 E2 e2 (.bl _) q2⟩⟩
theorem wd_neT {i : Nat} {t0 : OT} {tb : TE} (hi : ρ[i]? = some (some (.deep t0))) (h : WD B K tb ρ fun y ρ2 => ∃ t, ρ2[i]? = some (some (.deep t)) ∧ t.isD = true ∧ (noD t.data = true ∧ noD y = true ∧ SeqAt.shaped t.data = true ∧ SeqAt.shaped y = true) ∧ QD (.bool (!PyData.eqv t.data y)) ρ2) : WD B K (tOp (rNeD K) (tVar i) tb) ρ QD := fun F H σ E QQ k => by
  obtain ⟨v, e, _⟩ := E.sl i _ hi
  exact ⟨v, e, h F H σ E _ fun u y F2 H2 ρ2 E2 e2 ru ⟨t, hx, hd, ⟨n1, n2, s1, s2⟩, q2⟩ => ⟨_, y, deep_dp E2 hx hd n1 e, Rp.dp E2.fh ru n2, s1, s2, k _ _ F2 H2 ρ2 E2 e2 (.bl _) q2⟩⟩
/-- == and != of a place within, with data -/
theorem place_dp {F H : Hp} {σ : L2.St} (E : EnvOk B K F H σ ρ) {i : Nat} {t u : OT} {π : List Nat} (h : ρ[i]? = some (some (.deep t))) (hat : t.at π = some u) (hd : u.isD = true) (n : noD u.data = true) : ∃ w, Ot K F H w u ∧ Dp K H w u.data := by
  obtain ⟨w, e, s, _⟩ := E.sl i _ h
  obtain ⟨⟨z, hz⟩, _⟩ := Ot.at π s hat
  exact ⟨z, hz, Rp.dp (Ex.refl H) (hz.rp E.fh hd fun _ _ => rfl) n⟩
theorem wd_neP {tb : TE} (h : WE B K to ρ fun r ρ1 => ∃ a, r = .raw (.ref a) ∧ WD B K tb ρ1 fun y ρ2 => ∃ (j : Nat) (t : OT) (π : List Nat) (ts : List OT), ρ2[j]? = some (some (.deep t)) ∧ t.at π = some (.lst a ts) ∧ areD ts = true ∧ (noD (.list (datas ts)) = true ∧ noD y = true ∧ SeqAt.shaped (.list (datas ts)) = true ∧ SeqAt.shaped y = true) ∧ QD (.bool (!PyData.eqv (.list (datas ts)) y)) ρ2) : WD B K (tOp (rNeD K) to tb) ρ QD := fun F H σ E QQ k =>
  h F H σ E _ fun v r F1 H1 ρ1 E1 e1 rv ⟨a, hr, q⟩ => by
    subst hr
    cases (show v = .ref a from rv)
    refine q F1 H1 σ E1 _ fun w y F2 H2 ρ2 E2 e2 ry ⟨j, t, π, ts, hj, hat, hd, ⟨n1, n2, s1, s2⟩, q2⟩ => ?_
    obtain ⟨w', ow, dw⟩ := place_dp E2 hj hat (show (OT.lst a ts).isD = true from hd) n1
    cases ow
    exact ⟨_, y, dw, Rp.dp E2.fh ry n2, s1, s2, k _ _ F2 H2 ρ2 E2 (e1.trans e2) (.bl _) q2⟩
theorem wd_eqP {tb : TE} (h : WE B K to ρ fun r ρ1 => ∃ a, r = .raw (.ref a) ∧ WD B K tb ρ1 fun y ρ2 => ∃ (j : Nat) (t : OT) (π : List Nat) (ts : List OT), ρ2[j]? = some (some (.deep t)) ∧ t.at π = some (.lst a ts) ∧ areD ts = true ∧ (noD (.list (datas ts)) = true ∧ noD y = true ∧ SeqAt.shaped (.list (datas ts)) = true ∧ SeqAt.shaped y = true) ∧ QD (.bool (PyData.eqv (.list (datas ts)) y)) ρ2) : WD B K (tOp (rEqD K) to tb) ρ QD := fun F H σ E QQ k =>
  h F H σ E _ fun v r F1 H1 ρ1 E1 e1 rv ⟨a, hr, q⟩ => by
    subst hr
    cases (show v = .ref a from rv)
    refine q F1 H1 σ E1 _ fun w y F2 H2 ρ2 E2 e2 ry ⟨j, t, π, ts, hj, hat, hd, ⟨n1, n2, s1, s2⟩, q2⟩ => ?_
    obtain ⟨w', ow, dw⟩ := place_dp E2 hj hat (show (OT.lst a ts).isD = true from hd) n1
    cases ow
    exact ⟨_, y, dw, Rp.dp E2.fh ry n2, s1, s2, k _ _ F2 H2 ρ2 E2 (e1.trans e2) (.bl _) q2⟩
/-! ### targets that take own things -/
def WGT (B : Bs) (K : Fr) (g : TGs) (ts : List OT) (ρ : En) (Q : En → Prop) : Prop := ∀ F H σ vs, EnvOk B K F H σ ρ → OtA K F H vs ts → (fps ts).Nodup → Free B σ ρ (fps ts) → ∀ QQ : L2.St → Hp → Prop, (∀ F' H' σ' ρ', EnvOk B K F' H' σ' ρ' → Ex F F' → Q ρ' → QQ σ' H') → g vs σ H QQ
theorem wgt_nil {q : En → Prop} (h : q ρ) : WGT B K gNil [] ρ q := fun F H σ vs E rv _ _ QQ k => by
  cases rv
  exact ⟨rfl, k F H σ ρ E (Ex.refl F) h⟩
theorem free_set {B : Bs} {σ : L2.St} {ρ : En} {as : List Addr} {i : Nat} {v : V} {l : L} (h : Free B σ ρ as) (n : ∀ a, a ∈ as → ¬ LFp v l a) : Free B (σ.set i (some v)) (ρ.set i (some l)) as := fun a ha => by
  refine ⟨(h a ha).1, fun j ⟨m, w, e1, e2, e3⟩ => ?_⟩
  rcases set_cases e1 with ⟨rfl, hj, e⟩ | ⟨nj, e⟩
  · cases e
    rcases set_cases e2 with ⟨_, _, e'⟩ | ⟨nj, _⟩
    · cases e'; exact n a ha e3
    · exact nj rfl
  · rw [List.getElem?_set_ne (Ne.symm nj)] at e2
    exact (h a ha).2 j ⟨m, w, e, e2, e3⟩
theorem wgt_d {i : Nat} {gs : TGs} {x : PyData} {ts : List OT} {q : En → Prop} (hp : NP B i) (h : WGT B K gs ts (ρ.set i (some (.d x))) q) : WGT B K (gCons (gName i) gs) (.d x :: ts) ρ q := fun F H σ vs E rv nd fr QQ k => by
  cases rv with
  | cons r1 r2 =>
    cases r1 with
    | d r1 => exact ⟨_, _, rfl, h F H _ _ (E.setD (l := .d x) r1 rfl hp) r2 nd (free_set fr fun a _ => LFp.no rfl) QQ fun F' H' σ' ρ' E' e' q' => k F' H' σ' ρ' E' e' q'⟩
theorem wgt_o {i : Nat} {gs : TGs} {u : OT} {ts : List OT} {q : En → Prop} (hp : NP B i) (h : WGT B K gs ts (ρ.set i (some (.deep u))) q) : WGT B K (gCons (gName i) gs) (u :: ts) ρ q := fun F H σ vs E rv nd fr QQ k => by
  cases rv with
  | cons r1 r2 =>
    obtain ⟨n1, n2, n3⟩ := List.nodup_append.mp (show (u.fp ++ fps ts).Nodup from nd)
    exact ⟨_, _, rfl, h F H _ _ (E.setN (l := .deep u) ⟨r1, n1⟩ (fun a ha => fr a (List.mem_append_left _ ha)) hp) r2 n2 (free_set (fun a ha => fr a (List.mem_append_right _ ha)) fun a ha z => n3 a z a ha rfl) QQ fun F' H' σ' ρ' E' e' q' => k F' H' σ' ρ' E' e' q'⟩
theorem ws_asgGT {n : Nat} {gs : TGs} (h : WE B K te ρ fun r ρ' => ∃ (p : Addr) (ts : List OT), r = .deep (.tup p ts) ∧ ts.length = n ∧ WGT B K gs ts ρ' Z.nx) : WS B K (tAsg te (gTup K n gs)) ρ Z := fun F H σ E D ok =>
  h F H σ E _ fun v r F' H' ρ' E' ef rv ⟨p, ts, hr, hn, q⟩ => by
    subst hr
    obtain ⟨o, nd, fr⟩ := rv
    cases o with
    | @tup _ vs _ k1 k2 k3 =>
      exact ⟨p, vs, rfl, .inl (.inl k2), by rw [k3.length]; exact hn, q F' H' σ vs E' k3 (List.nodup_cons.mp nd).2 (fun a ha => fr a (List.mem_cons_of_mem _ ha)) _ fun F2 H2 σ2 ρ2 E2 e2 q2 => ok.nx F2 H2 σ2 ρ2 E2 (ef.trans e2) q2⟩
/-! a value that becomes a part -/
def WK (B : Bs) (K : Fr) (te : TE) (ρ : En) (Q : OT → En → Prop) : Prop := WE B K te ρ fun r ρ' => Kid r fun u => Q u ρ'
variable {QK : OT → En → Prop}
theorem wk_e (h : WE B K te ρ fun r ρ' => Kid r fun u => QK u ρ') : WK B K te ρ QK := h
theorem wk_d (h : WD B K te ρ fun x ρ' => QK (.d x) ρ') : WK B K te ρ QK := we_d h
theorem wk_take {j : Nat} {xs : List PyData} (hj : ρ[j]? = some (some (.own xs))) (np : NP B j) (q : ∀ a, QK (.lst a (xs.map .d)) (ρ.set j none)) : WK B K (tVar j) ρ QK := we_take hj np q
theorem wk_takeT {j : Nat} {t : OT} (hj : ρ[j]? = some (some (.deep t))) (np : NP B j) (q : QK t (ρ.set j none)) : WK B K (tVar j) ρ QK := we_takeT hj np q
theorem we_appendV {j : Nat} {a : Addr} {ts : List OT} (hj : ρ[j]? = some (some (.deep (.lst a ts)))) (np : NP B j) (h : WK B K te ρ fun u ρ2 => ∃ ts', ρ2[j]? = some (some (.deep (.lst a ts'))) ∧ ts'.length < lim ∧ Q (.d .none) (ρ2.set j (some (.deep (.lst a (ts' ++ [u])))))) : WE B K (tBM K "list" rAppend (tVar j) (tCons te tNil)) ρ Q :=
  we_appendP (we_ptr hj ⟨a, rfl, ⟨j, _, [], ts, hj, rfl⟩, we_mono h fun r ρ2 k => by
    have ex : ∃ ts', ρ2[j]? = some (some (.deep (.lst a ts'))) ∧ ts'.length < lim := by
      cases r with
      | d x => obtain ⟨ts', q1, q2, _⟩ := k; exact ⟨ts', q1, q2⟩
      | new xs => obtain ⟨ts', q1, q2, _⟩ := k 0; exact ⟨ts', q1, q2⟩
      | deep t => obtain ⟨ts', q1, q2, _⟩ := k; exact ⟨ts', q1, q2⟩
      | newD ks xs => obtain ⟨ts', q1, q2, _⟩ := k 0; exact ⟨ts', q1, q2⟩
      | scr ns => exact k.elim
      | raw w => exact k.elim
    obtain ⟨ts', q1, q2⟩ := ex
    have fin : ∀ u, (∃ ts', ρ2[j]? = some (some (.deep (.lst a ts'))) ∧ ts'.length < lim ∧ Q (.d .none) (ρ2.set j (some (.deep (.lst a (ts' ++ [u])))))) → Q (.d .none) (ρ2.set j (some (.deep (OT.put [] (.lst a ts') (.lst a (ts' ++ [u])))))) := fun u ⟨ts2, e1, _, e3⟩ => by
      rw [q1] at e1
      cases e1
      exact e3
    refine ⟨j, _, [], ts', np, q1, rfl, q2, ?_⟩
    cases r with
    | d x => exact fin _ k
    | new xs => exact fun b => fin _ (k b)
    | deep t => exact fin _ k
    | newD ks xs => exact fun b => fin _ (k b)
    | scr ns => exact k.elim
    | raw w => exact k.elim⟩)
theorem wd_ixT {j : Nat} {a : Addr} {ts0 : List OT} {tb : TE} (hj : ρ[j]? = some (some (.deep (.lst a ts0)))) (h : WD B K tb ρ fun y ρ2 => ∃ ts i x, ρ2[j]? = some (some (.deep (.lst a ts))) ∧ y = .int i ∧ atI ts i = some (.d x) ∧ QD x ρ2) : WD B K (tOp (rIx K) (tVar j) tb) ρ QD :=
  wd_e (we_ixP (we_ptr hj ⟨a, rfl, wd_mono h fun y ρ2 ⟨ts, i, x, h1, h2, h3, q⟩ => ⟨j, _, [], ts, i, _, h2, h1, .inl rfl, h3, x, rfl, q⟩⟩))
def tAsgX (te : TE) (g : TG) : TS := fun D σ H => True ∧ tAsg te g D σ H
theorem ws_asgGX {n : Nat} {gs : TGs} (h : WE B K te ρ fun r ρ' => ∃ (p : Addr) (ts : List OT), r = .deep (.tup p ts) ∧ ts.length = n ∧ WGT B K gs ts ρ' Z.nx) : WS B K (tAsgX te (gTup K n gs)) ρ Z := fun F H σ E D ok => ⟨trivial, ws_asgGT h F H σ E D ok⟩
/-! ### displays of own things -/
def WXs (B : Bs) (K : Fr) (ta : TA) (ρ : En) (Q : List OT → En → Prop) : Prop := ∀ F H σ, EnvOk B K F H σ ρ → ∀ QQ : List V → Hp → Prop, (∀ vs ts F' H' ρ', EnvOk B K F' H' σ ρ' → Ex F F' → OtA K F' H' vs ts → (fps ts).Nodup → Free B σ ρ' (fps ts) → Q ts ρ' → QQ vs H') → ta σ H QQ
variable {QX : List OT → En → Prop}
theorem wx_nil (q : QX [] ρ) : WXs B K tNil ρ QX := fun F H σ E QQ k => k [] [] F H ρ E (Ex.refl F) .nil List.nodup_nil (fun a h => nomatch h) q
theorem wx_d (h : WD B K te ρ fun x ρ1 => WXs B K tr ρ1 fun ts ρ2 => QX (.d x :: ts) ρ2) : WXs B K (tCons te tr) ρ QX := fun F H σ E QQ k =>
  h F H σ E _ fun v x F1 H1 ρ1 E1 e1 rv q => q F1 H1 σ E1 _ fun vs ts F3 H3 ρ3 E3 e3 os nd fr q3 => k (v :: vs) (.d x :: ts) F3 H3 ρ3 E3 (e1.trans e3) (.cons (.d (Rp.mono e3 rv)) os) nd fr q3
theorem wx_o {p : Option Nat} (hp : B.pin.map Prod.fst = p) (h : WE B K te ρ fun r ρ1 => Kid r fun u => ∀ B' : Bs, B'.pin.map Prod.fst = p → WXs B' K tr ρ1 fun ts ρ2 => QX (u :: ts) ρ2) : WXs B K (tCons te tr) ρ QX := fun F H σ E QQ k =>
  h F H σ E _ fun v r F1 H1 ρ1 E1 e1 rv kd => by
    obtain ⟨u, ou, ndu, fu, q⟩ := kid_ok rv kd
    let B' : Bs := ⟨F1, fun a => if a ∈ u.fp then H1 a else B.H0 a, B.pin⟩
    have yes : ∀ a, a ∈ u.fp → B'.H0 a = H1 a := fun a ha => if_pos ha
    have no : ∀ a, a ∉ u.fp → B'.H0 a = B.H0 a := fun a ha => if_neg ha
    have nof : ∀ i a, SFp σ ρ1 i a → a ∉ u.fp := fun i a h z => (fu a z).2 i h
    have pinf : ∀ i a, B.pin = some (i, a) → a ∉ u.fp := fun i a e z => by
      obtain ⟨q1, q2⟩ := E1.pin i a e
      rcases q2 with ⟨⟨xs, q2⟩, _⟩ | ⟨⟨ks, xs, q2⟩, _⟩
      · exact nof i a ⟨_, _, q2, q1, rfl⟩ z
      · exact nof i a ⟨_, _, q2, q1, rfl⟩ z
    have E1' : EnvOk B' K F1 H1 σ ρ1 := by
      refine ⟨⟨Ex.refl F1, E1.fh, fun a o e n => ?_, fun a h => ?_, fun a h _ => h⟩, E1.len, E1.sl, E1.sep, fun i a h => ?_, fun i a e => ?_⟩
      · by_cases c : a ∈ u.fp
        · rw [yes a c] at e; exact e
        · rw [no a c] at e; exact E1.st.h0 a o e n
      · by_cases c : a ∈ u.fp
        · rw [yes a c] at h; exact h
        · rw [no a c] at h; exact E1.st.th a h
      · rw [no a (nof i a h)]; exact E1.mine i a h
      · rw [no a (pinf i a e)]; exact E1.pin i a e
    refine q B' hp F1 H1 σ E1' _ fun vs ts F2 H2 ρ2 E2 e2 os nd fr q2 => ?_
    have live : ∀ a, a ∈ u.fp → B'.H0 a ≠ none := fun a ha => by
      obtain ⟨_, o, e⟩ := ou.live ha
      rw [yes a ha, e]
      exact fun z => nomatch z
    have b0 : ∀ a, B'.H0 a = none → a ∉ u.fp ∧ B.H0 a = none := fun a h => by
      have c : a ∉ u.fp := fun z => live a z h
      exact ⟨c, by rw [← no a c]; exact h⟩
    have E2' : EnvOk B K F2 H2 σ ρ2 := by
      refine ⟨⟨E1.st.f0.trans E2.st.f0, E2.st.fh, fun a o e n => ?_, fun a h => ?_, fun a h1 h2 => ?_⟩, E2.len, E2.sl, E2.sep, fun i a h => ?_, fun i a e => ?_⟩
      · have c : a ∉ u.fp := fun z => by rw [(fu a z).1] at e; cases e
        exact E2.st.h0 a o (by rw [no a c]; exact e) n
      · have c : a ∉ u.fp := fun z => h (fu a z).1
        exact E2.st.th a (by rw [no a c]; exact h)
      · have c : a ∉ u.fp := fun z => h2 (fu a z).1
        exact E2.st.nf a (E1.st.nf a h1 h2) (by rw [no a c]; exact h2)
      · rcases E2.mine i a h with k | k
        · exact .inl (b0 a k).2
        · exact .inr k
      · obtain ⟨q1, q2⟩ := E2.pin i a e
        rw [no a (pinf i a e)] at q2
        exact ⟨q1, q2⟩
    have keep : ∀ a, a ∈ u.fp → F2 a = none ∧ H2 a = H1 a := fun a ha => by
      obtain ⟨k1, o, k2⟩ := ou.live ha
      refine ⟨E2.st.nf a k1 (live a ha), ?_⟩
      rw [k2]
      exact E2.st.h0 a o (by rw [yes a ha]; exact k2) fun i z => pinf i a z ha
    refine k (v :: vs) (u :: ts) F2 H2 ρ2 E2' (e1.trans e2) (.cons (ou.mono e2 keep) os) ?_ ?_ q2
    · refine List.nodup_append.mpr ⟨ndu, nd, fun a ha b hb z => ?_⟩
      subst z
      exact live a ha (fr a hb).1
    · intro a ha
      rcases List.mem_append.mp ha with ha | ha
      · refine ⟨(fu a ha).1, fun i h => ?_⟩
        rcases E2.mine i a h with k | k
        · exact live a ha k
        · exact pinf i a k ha
      · exact ⟨(b0 a (fr a ha).1).2, (fr a ha).2⟩
theorem wx_var {i : Nat} {x : PyData} (h : ρ[i]? = some (some (.d x))) (q : WXs B K tr ρ fun ts ρ2 => QX (.d x :: ts) ρ2) : WXs B K (tCons (tVar i) tr) ρ QX := wx_d (wd_var h q)
theorem wx_str {s : Str} (q : WXs B K tr ρ fun ts ρ2 => QX (.d (.str s) :: ts) ρ2) : WXs B K (tCons (tC (.str s)) tr) ρ QX := wx_d (wd_str q)
theorem wx_int {s : Int} (q : WXs B K tr ρ fun ts ρ2 => QX (.d (.int s) :: ts) ρ2) : WXs B K (tCons (tC (.int s)) tr) ρ QX := wx_d (wd_int q)
theorem wx_take {p : Option Nat} (hp : B.pin.map Prod.fst = p) {j : Nat} {xs : List PyData} (hj : ρ[j]? = some (some (.own xs))) (np : NP B j) (q : ∀ a (B' : Bs), B'.pin.map Prod.fst = p → WXs B' K tr (ρ.set j none) fun ts ρ2 => QX (.lst a (xs.map .d) :: ts) ρ2) : WXs B K (tCons (tVar j) tr) ρ QX := wx_o hp (we_take hj np q)
theorem wx_takeT {p : Option Nat} (hp : B.pin.map Prod.fst = p) {j : Nat} {t : OT} (hj : ρ[j]? = some (some (.deep t))) (np : NP B j) (q : ∀ (B' : Bs), B'.pin.map Prod.fst = p → WXs B' K tr (ρ.set j none) fun ts ρ2 => QX (t :: ts) ρ2) : WXs B K (tCons (tVar j) tr) ρ QX := wx_o hp (we_takeT hj np q)
def tTupX (t : TA) : TE := fun σ H Q => True ∧ tTup t σ H Q
def tLstX (t : TA) : TE := fun σ H Q => True ∧ tLst t σ H Q
theorem we_nodeX {a : Addr} {F H : Hp} {σ : L2.St} (E : EnvOk B K F H σ ρ) {p : Addr} (hp : H p = none) {vs : List V} {ts : List OT} {o : HO} {t : OT} (ht : t.fp = p :: fps ts) (os : OtA K F H vs ts) (nd : (fps ts).Nodup) (fr : Free B σ ρ (fps ts)) (mk : OtA K F (upd H p o) vs ts → Ot K F (upd H p o) (.ref p) t) :
    EnvOk B K F (upd H p o) σ ρ ∧ ROk B K F (upd H p o) σ ρ (.ref p) (.deep t) := by
  have np : p ∉ fps ts := fun z => by
    obtain ⟨_, o', e⟩ := os.live z
    rw [hp] at e; cases e
  refine ⟨E.allocO hp, mk (os.mono (Ex.refl F) fun b hb => ⟨(os.live hb).1, upd_ne fun z => np (by rw [← z]; exact hb)⟩), by rw [ht]; exact List.nodup_cons.mpr ⟨np, nd⟩, fun b hb => ?_⟩
  rw [ht] at hb
  rcases List.mem_cons.mp hb with rfl | hb
  · exact ⟨E.h0p hp, fun i => E.fr hp i⟩
  · exact fr b hb
theorem we_tupX (h : WXs B K tl ρ fun ts ρ' => ts.length ≤ lim ∧ ∀ p, Q (.deep (.tup p ts)) ρ') : WE B K (tTupX tl) ρ Q := fun F H σ E QQ k => ⟨trivial,
  h F H σ E _ fun vs ts F1 H1 ρ1 E1 e1 os nd fr ⟨hz, q⟩ => ⟨by rw [os.length]; exact lim_le hz, fun p hp => by
    obtain ⟨E2, r2⟩ := we_nodeX (a := p) E1 hp (o := .tup vs) (t := .tup p ts) rfl os nd fr fun o => .tup (E1.fh.free hp) upd_same o
    exact k _ (.deep (.tup p ts)) F1 _ ρ1 E2 e1 r2 (q p)⟩⟩
theorem we_lstX (h : WXs B K tl ρ fun ts ρ' => ts.length ≤ lim ∧ ∀ p, Q (.deep (.lst p ts)) ρ') : WE B K (tLstX tl) ρ Q := fun F H σ E QQ k => ⟨trivial,
  h F H σ E _ fun vs ts F1 H1 ρ1 E1 e1 os nd fr ⟨hz, q⟩ => ⟨by rw [os.length]; exact lim_le hz, fun p hp => by
    obtain ⟨E2, r2⟩ := we_nodeX (a := p) E1 hp (o := .lst vs) (t := .lst p ts) rfl os nd fr fun o => .lst (E1.fh.free hp) upd_same o
    exact k _ (.deep (.lst p ts)) F1 _ ρ1 E2 e1 r2 (q p)⟩⟩
end
theorem ps_asgX {X : Cx} {st : Stmt} {te : TE} {g : TG} (h : PS X st (tAsg te g)) : PS X st (tAsgX te g) := ⟨fun pins s σ H D I hh => h.run pins s σ H D I hh.2⟩
theorem pe_tupX {X : Cx} {es : List Expr} {k : Nat} {pos : Pos} {t : TA} (h : PE X (.Tuple es k pos) (tTup t)) : PE X (.Tuple es k pos) (tTupX t) := ⟨fun pins s σ H Q I hh => h.run pins s σ H Q I hh.2⟩
theorem pe_lstX {X : Cx} {e : Expr} {t : TA} (h : PE X e (tLst t)) : PE X e (tLstX t) := ⟨fun pins s σ H Q I hh => h.run pins s σ H Q I hh.2⟩
theorem slc_list {xs : List PyData} {lo hi : Option Int} {k : R → Prop} (h : k (.new (cutD xs lo hi))) : Slc (.list xs) lo hi k := h
theorem slc_tup {xs : List PyData} {lo hi : Option Int} {k : R → Prop} (h : k (.d (.tuple (cutD xs lo hi)))) : Slc (.tuple xs) lo hi k := h
theorem slc_str {z : Str} {lo hi : Option Int} {k : R → Prop} (hz : z.length ≤ lim) (h : k (.d (.str (cutS z lo hi)))) : Slc (.str z) lo hi k := ⟨hz, h⟩
theorem toD_deep {t : OT} (h : t.isD = true) : (R.deep t).toD = some t.data := by
  unfold R.toD
  simp only [h, if_true]
theorem toL_of {r : R} {x : PyData} (h : r.toD = some x) : r.toL = some (.d x) := by
  cases r with
  | d y => cases h; rfl
  | new xs => cases h; rfl
  | scr ns => cases h
  | raw w => cases h
  | newD ks xs => cases h
  | deep t =>
    unfold R.toD at h
    unfold R.toL
    by_cases c : t.isD = true
    · simp only [c, if_true] at h ⊢
      cases h
      rfl
    · simp only [c] at h
      cases h
/-! a callee takes over what a slot owns -/
def tCallC (sp : Sp) (E : XK) (t : TA) : TE := fun σ H Q => (True ∧ True) ∧ tCall sp [] E t σ H Q
theorem pe_give {X : Cx} {e : Expr} {sp : Sp} {E : XK} {t : TA} (h : PE X e (tCall sp [] E t)) : PE X e (tCallC sp E t) := ⟨fun pins s σ H Q I hh => h.run pins s σ H Q I hh.2⟩
theorem we_callG {B : Bs} {K : Fr} {ρ : En} {ta : TA} {Q : R → En → Prop} {G : GF} {E : XK} (h : WA B K ta ρ fun as ρ1 => ∃ pre post j l l1 l2 Pe, as = pre ++ .own j :: post ∧ ρ1[j]? = some (some l) ∧ (∀ a, B.pin ≠ some (j, a)) ∧ argL pre = some l1 ∧ argL post = some l2 ∧ G (l1 ++ l :: l2) (fun r _ => Q r (ρ1.set j none)) Pe ∧ ∀ C, Pe C → EK B K E C) :
    WE B K (tCallC (SpG K none G) E ta) ρ Q := fun F H σ E0 QQ k => ⟨⟨trivial, trivial⟩, we_callC h F H σ E0 QQ k⟩
theorem wa_ownT {B : Bs} {K : Fr} {ρ : En} {tr : TA} {QA : List Ar → En → Prop} {j : Nat} {t : OT} (h : ρ[j]? = some (some (.deep t))) (q : WA B K tr ρ fun as ρ2 => QA (.own j :: as) ρ2) : WA B K (tCons (tVar j) tr) ρ QA := fun F H σ E QQ k => by
  obtain ⟨v, e, _⟩ := E.sl j _ h
  exact ⟨v, e, q F H σ E _ fun vs as F3 H3 ρ3 E3 e3 as' q3 => k _ _ F3 H3 ρ3 E3 e3 (.cons (a := .own j) e as') q3⟩
theorem wa_ownD {B : Bs} {K : Fr} {ρ : En} {tr : TA} {QA : List Ar → En → Prop} {j : Nat} {ks : List Key} {xs : List PyData} (h : ρ[j]? = some (some (.ownD ks xs))) (q : WA B K tr ρ fun as ρ2 => QA (.own j :: as) ρ2) : WA B K (tCons (tVar j) tr) ρ QA := fun F H σ E QQ k => by
  obtain ⟨v, e, _⟩ := E.sl j _ h
  exact ⟨v, e, q F H σ E _ fun vs as F3 H3 ρ3 E3 e3 as' q3 => k _ _ F3 H3 ρ3 E3 e3 (.cons (a := .own j) e as') q3⟩
/-! a callee that changes a new list that is handed in last -/
def WAN (B : Bs) (K : Fr) (ta : TA) (ρ : En) (Q : List PyData → List PyData → En → Prop) : Prop := ∀ F H σ, EnvOk B K F H σ ρ → ∀ QQ : List V → Hp → Prop, (∀ vs v ds xs F' H' ρ', EnvOk B K F' H' σ ρ' → Ex F F' → RpA K F' vs ds → ROk B K F' H' σ ρ' v (.new xs) → Q ds xs ρ' → QQ (vs ++ [v]) H') → ta σ H QQ
def tCallN (sp : Sp) (E : XK) (t : TA) : TE := fun σ H Q => ((True ∧ True) ∧ True) ∧ tCall sp [] E t σ H Q
theorem pe_tmp {X : Cx} {e : Expr} {sp : Sp} {E : XK} {t : TA} (h : PE X e (tCall sp [] E t)) : PE X e (tCallN sp E t) := ⟨fun pins s σ H Q I hh => h.run pins s σ H Q I hh.2⟩
section
variable {B : Bs} {K : Fr} {F F' H H' : Hp} {σ : L2.St} {ρ : En} {te : TE} {tr ta : TA} {Q : R → En → Prop} {QN : List PyData → List PyData → En → Prop}
theorem wan_last (h : WE B K te ρ fun r ρ' => ∃ xs, r = .new xs ∧ QN [] xs ρ') : WAN B K (tCons te tNil) ρ QN := fun F H σ E QQ k =>
  h F H σ E _ fun v r F1 H1 ρ1 E1 e1 rv ⟨xs, hr, q⟩ => by
    subst hr
    exact k [] v [] xs F1 H1 ρ1 E1 e1 .nil rv q
theorem wan_cons (h : WD B K te ρ fun x ρ1 => WAN B K tr ρ1 fun ds xs ρ2 => QN (x :: ds) xs ρ2) : WAN B K (tCons te tr) ρ QN := fun F H σ E QQ k =>
  h F H σ E _ fun v x F1 H1 ρ1 E1 e1 rv q => q F1 H1 σ E1 _ fun vs w ds xs F3 H3 ρ3 E3 e3 rs rw' q3 => k (v :: vs) w (x :: ds) xs F3 H3 ρ3 E3 (e1.trans e3) (.cons (Rp.mono e3 rv) rs) rw' q3
theorem EnvOk.stepX (E : EnvOk B K F H σ ρ) {p : Nat} {a : Addr} (ha : B.H0 a = none) (hn : ∀ i, ¬ SFp σ ρ i a) (hF : F a = none) (st : St1 ⟨F, H, some (p, a)⟩ F' H') : EnvOk B K F' H' σ ρ := by
  have ne : ∀ b o, b ≠ a → H b = some o → H' b = some o := fun b o n e => st.h0 b o e fun i z => n (Prod.mk.inj (Option.some.inj z)).2.symm
  refine ⟨⟨E.st.f0.trans st.f0, st.fh, fun b u e n => ?_, fun b hb => st.th b (E.st.th b hb), fun b h1 h2 => st.nf b (E.st.nf b h1 h2) (E.st.th b h2)⟩, E.len, E.sl_mono st.f0 fun i b h => ?_, E.sep, E.mine, E.pin⟩
  · exact ne b u (fun z => by rw [z, ha] at e; cases e) (E.st.h0 b u e n)
  · obtain ⟨k1, o, k2⟩ := E.live h
    have nb : b ≠ a := fun z => hn i (by rw [← z]; exact h)
    exact ⟨st.nf b k1 (by rw [show (⟨F, H, some (p, a)⟩ : Bs).H0 b = H b from rfl, k2]; exact fun z => nomatch z), (ne b o nb k2).trans k2.symm⟩
theorem we_callPN {G : GF} {E : XK} {p : Nat} (h : WAN B K ta ρ fun ds xs ρ1 => ∃ Pe, ds.length = p ∧ G (ds.map .d ++ [.own xs]) (fun r _ => Q r ρ1) Pe ∧ ∀ C, Pe C → EK B K E C) : WE B K (tCallN (SpG K (some p) G) E ta) ρ Q := fun F H σ E0 QQ k => ⟨⟨⟨trivial, trivial⟩, trivial⟩,
  h F H σ E0 _ fun vs v ds xs F1 H1 ρ1 E1 e1 rs rv ⟨Pe, hp, hG, hE⟩ => by
    show SpG K (some p) G ((vs ++ [v]) ++ []) H1 QQ E
    rw [List.append_nil]
    obtain ⟨a, cs, rfl, f1, f2, f3, f4, f5⟩ := rv
    have hu : vs.length = p := by rw [rs.length]; exact hp
    have pa : pinAt (some p) (vs ++ [.ref a]) = some (p, a) := pinAt_own hu
    have s1 : ∀ (i : Nat) (l : L), (ds.map L.d)[i]? = some l → (∃ v, vs[i]? = some v ∧ SlotOk K F1 H1 v l) ∧ l.pl = true := fun i l e => by
      rw [List.getElem?_map] at e
      cases q : ds[i]? with
      | none => rw [q] at e; cases e
      | some d =>
        rw [q] at e
        cases e
        obtain ⟨w, hw, rw'⟩ := rs.get' q
        exact ⟨⟨w, hw, rw'⟩, rfl⟩
    have A := args_own (p := p) (H0 := H1) (pin := some (p, a)) (v := .ref a) (l := .own xs) (l1 := ds.map L.d) (l2 := []) (ws := []) (by rw [List.length_map]; exact hp) E1.fh (fun b o e => e) (by rw [List.length_map]; exact rs.length) s1 rfl (fun i l e => by simp at e) ⟨a, cs, rfl, f1, f2, f3⟩ (fun b hb => .inr (by cases (show V.ref a = V.ref b from hb); rfl))
      (fun i b e => by cases e; exact ⟨rfl, rfl, .inl ⟨⟨xs, rfl⟩, cs, f2⟩⟩)
    have back : ∀ F' H', St1 ⟨F1, H1, some (p, a)⟩ F' H' → EnvOk B K F' H' σ ρ1 := fun F' H' st => E1.stepX f4 f5 f1 st
    unfold SpG
    rw [pa]
    refine ⟨F1, H1, ds.map L.d ++ [.own xs], fun r _ => Q r ρ1, Pe, ⟨by rw [pa]; exact A, by rw [pa]; rfl⟩, hG, fun v r F' H' ys st rv ow q => ?_, fun C F' H' ys st ow hC => hE C hC F' H' σ _ (back F' H' st)⟩
    exact k v r F' H' _ (back F' H' st) (e1.trans st.f0) (ret_ok (back F' H' st) E1.fr2 rv) q⟩
end
end SV

set_option maxHeartbeats 1000000
namespace SV
open PySem PySem.Spec L2
open Evl (Ex)
/-! ### own dicts of data: the keys, and what stands at each -/
instance memKey (k : Key) : (ks : List Key) → Decidable (k ∈ ks)
  | [] => .isFalse (fun h => nomatch h)
  | j :: ks => if e : k = j then .isTrue (by rw [e]; exact List.mem_cons_self) else match memKey k ks with
    | .isTrue h => .isTrue (List.mem_cons_of_mem _ h)
    | .isFalse h => .isFalse fun z => (List.mem_cons.mp z).elim e h
def getK {α : Type} : List Key → List α → Key → Option α
  | k :: ks, x :: xs, j => if k = j then some x else getK ks xs j
  | _, _, _ => none
def replK {α : Type} (ks : List Key) (xs : List α) (k : Key) (x : α) : List α := List.zipWith (fun j y => if j = k then x else y) ks xs
def putKs (ks : List Key) (k : Key) : List Key := if k ∈ ks then ks else ks ++ [k]
def putXs {α : Type} (ks : List Key) (xs : List α) (k : Key) (x : α) : List α := if k ∈ ks then replK ks xs k x else xs ++ [x]
section
variable {α : Type}
theorem getK_cons {k j : Key} {ks : List Key} {x : α} {xs : List α} : getK (k :: ks) (x :: xs) j = if k = j then some x else getK ks xs j := rfl
theorem getK_nil {xs : List α} {j : Key} : getK [] xs j = none := by unfold getK; rfl
theorem getK_none : ∀ {ks : List Key} {xs : List α} {k : Key}, k ∉ ks → getK ks xs k = none
  | [], _, _, _ => getK_nil
  | j :: ks, [], _, _ => by unfold getK; rfl
  | j :: ks, x :: xs, k, h => by
    rw [getK_cons, if_neg fun z => h (by rw [z]; exact List.mem_cons_self)]
    exact getK_none fun z => h (List.mem_cons_of_mem _ z)
theorem getK_some : ∀ {ks : List Key} {xs : List α} {k : Key}, k ∈ ks → ks.length = xs.length → ∃ x, getK ks xs k = some x
  | j :: ks, [], _, _, hl => by cases hl
  | j :: ks, x :: xs, k, h, hl => by
    rw [getK_cons]
    by_cases c : j = k
    · exact ⟨x, if_pos c⟩
    · rw [if_neg c]
      exact getK_some ((List.mem_cons.mp h).resolve_left fun z => c z.symm) (by simpa using hl)
theorem getK_in {ks : List Key} {xs : List α} {k : Key} {x : α} (h : getK ks xs k = some x) : k ∈ ks := Classical.byContradiction fun c => by rw [getK_none c] at h; cases h
theorem getK_app : ∀ {ks js : List Key} {xs ys : List α} {k : Key}, ks.length = xs.length → getK (ks ++ js) (xs ++ ys) k = if k ∈ ks then getK ks xs k else getK js ys k
  | [], js, [], ys, k, _ => by rw [if_neg (List.not_mem_nil)]; rfl
  | [], _, _ :: _, _, _, h => by cases h
  | _ :: _, _, [], _, _, h => by cases h
  | j :: ks, js, x :: xs, ys, k, h => by
    rw [List.cons_append, List.cons_append, getK_cons, getK_cons, getK_app (by simpa using h)]
    by_cases c : j = k
    · rw [if_pos c, if_pos c, if_pos (by rw [c]; exact List.mem_cons_self)]
    · rw [if_neg c, if_neg c]
      by_cases m : k ∈ ks
      · rw [if_pos m, if_pos (List.mem_cons_of_mem _ m)]
      · rw [if_neg m, if_neg fun z => m ((List.mem_cons.mp z).resolve_left fun y => c y.symm)]
theorem getK_repl {k : Key} {x : α} : ∀ {ks : List Key} {xs : List α} (j : Key), ks.length = xs.length → getK ks (replK ks xs k x) j = if k = j ∧ k ∈ ks then some x else getK ks xs j
  | [], _, j, _ => by rw [getK_nil, getK_nil, if_neg fun z => nomatch z.2]
  | _ :: _, [], _, h => by cases h
  | i :: ks, y :: xs, j, h => by
    show getK (i :: ks) ((if i = k then x else y) :: replK ks xs k x) j = _
    rw [getK_cons, getK_cons, getK_repl j (by simpa using h)]
    by_cases ij : i = j
    · rw [if_pos ij, if_pos ij]
      by_cases ik : i = k
      · rw [if_pos ik, if_pos ⟨ik.symm.trans ij, by rw [ik]; exact List.mem_cons_self⟩]
      · rw [if_neg ik, if_neg fun z => ik (ij.trans z.1.symm)]
    · rw [if_neg ij, if_neg ij]
      by_cases c : k = j ∧ k ∈ ks
      · rw [if_pos c, if_pos ⟨c.1, List.mem_cons_of_mem _ c.2⟩]
      · rw [if_neg c, if_neg fun z => c ⟨z.1, (List.mem_cons.mp z.2).resolve_left fun y => ij (y.symm.trans z.1)⟩]
theorem replK_len {k : Key} {x : α} {ks : List Key} {xs : List α} (h : ks.length = xs.length) : (replK ks xs k x).length = xs.length := by
  unfold replK
  rw [List.length_zipWith, h, Nat.min_self]
theorem put_len {k : Key} {x : α} {ks : List Key} {xs : List α} (h : ks.length = xs.length) : (putKs ks k).length = (putXs ks xs k x).length := by
  unfold putKs putXs
  by_cases c : k ∈ ks
  · rw [if_pos c, if_pos c, replK_len h]; exact h
  · rw [if_neg c, if_neg c, List.length_append, List.length_append, h]; rfl
theorem put_new {k : Key} {x : α} {ks : List Key} {xs : List α} (h : k ∉ ks) : putKs ks k = ks ++ [k] ∧ putXs ks xs k x = xs ++ [x] := ⟨if_neg h, if_neg h⟩
theorem getK_put {k : Key} {x : α} {ks : List Key} {xs : List α} (j : Key) (h : ks.length = xs.length) : getK (putKs ks k) (putXs ks xs k x) j = if k = j then some x else getK ks xs j := by
  unfold putKs putXs
  by_cases c : k ∈ ks
  · rw [if_pos c, if_pos c, getK_repl j h]
    by_cases e : k = j
    · rw [if_pos ⟨e, c⟩, if_pos e]
    · rw [if_neg fun z => e z.1, if_neg e]
  · rw [if_neg c, if_neg c, getK_app h]
    by_cases e : k = j
    · subst e
      rw [if_neg c, if_pos rfl, getK_cons, if_pos rfl]
    · rw [if_neg e, getK_cons, if_neg e, getK_nil]
      by_cases m : j ∈ ks
      · rw [if_pos m]
      · rw [if_neg m, getK_none m]
theorem mem_put {k j : Key} {ks : List Key} : j ∈ putKs ks k ↔ j = k ∨ j ∈ ks := by
  unfold putKs
  by_cases c : k ∈ ks
  · rw [if_pos c]
    exact ⟨.inr, fun h => h.elim (fun e => by rw [e]; exact c) id⟩
  · rw [if_neg c, List.mem_append, List.mem_singleton]
    exact Or.comm
end
/-! the layer's dicts -/
section
variable {K : Fr} {F H : Hp}
theorem valV_get : ∀ {ks : List Key} {vs : List V} {k : Key}, valV (ks.zip vs) k = getK ks vs k
  | [], _, _ => by rw [getK_nil]; rfl
  | _ :: _, [], _ => by unfold getK; rfl
  | j :: ks, v :: vs, k => by
    rw [List.zip_cons_cons, getK_cons]
    by_cases c : j = k
    · rw [if_pos c, valV_pos (p := (j, v)) c]
    · rw [if_neg c, valV_neg (p := (j, v)) c]
      exact valV_get
theorem RpA.getK : ∀ {ks : List Key} {vs : List V} {xs : List PyData} {k : Key}, RpA K F vs xs → (∀ x, getK ks xs k = some x → ∃ v, SV.getK ks vs k = some v ∧ Rp K F v x) ∧ (SV.getK ks xs k = none → SV.getK ks vs k = none)
  | [], _, _, _, _ => by rw [getK_nil]; exact ⟨(fun x h => nomatch h), fun _ => getK_nil⟩
  | _ :: _, [], _, _, .nil => ⟨(fun x h => by unfold SV.getK at h; cases h), fun _ => by unfold SV.getK; rfl⟩
  | j :: ks, v :: vs, _ :: xs, k, .cons h r => by
    rw [getK_cons, getK_cons]
    by_cases c : j = k
    · rw [if_pos c, if_pos c]
      exact ⟨(fun x e => by cases e; exact ⟨v, rfl, h⟩), fun e => nomatch e⟩
    · rw [if_neg c, if_neg c]
      exact RpA.getK r
theorem RpA.repl : ∀ {ks : List Key} {vs : List V} {xs : List PyData} {k : Key} {v : V} {x : PyData}, RpA K F vs xs → Rp K F v x → RpA K F (replK ks vs k v) (replK ks xs k x)
  | [], _, _, _, _, _, _, _ => .nil
  | _ :: _, [], _, _, _, _, .nil, _ => .nil
  | j :: ks, _ :: vs, _ :: xs, k, v, x, .cons h r, q => by
    show RpA K F ((if j = k then v else _) :: replK ks vs k v) ((if j = k then x else _) :: replK ks xs k x)
    by_cases c : j = k
    · rw [if_pos c, if_pos c]; exact .cons q (RpA.repl r q)
    · rw [if_neg c, if_neg c]; exact .cons h (RpA.repl r q)
theorem any_mem {ks : List Key} {vs : List V} {k : Key} (h : ks.length = vs.length) : ((ks.zip vs).any fun kv => decide (kv.1 = k)) = decide (k ∈ ks) := by
  rw [valV_any, valV_get]
  by_cases c : k ∈ ks
  · obtain ⟨x, e⟩ := getK_some c h
    rw [e, decide_eq_true c]
    rfl
  · rw [getK_none c, decide_eq_false c]
    rfl
theorem map_zip {ks : List Key} {vs : List V} {k : Key} {v : V} : (ks.zip vs).map (fun kv => if kv.1 = k then (kv.1, v) else kv) = ks.zip (replK ks vs k v) := by
  induction ks generalizing vs with
  | nil => rfl
  | cons j ks ih =>
    cases vs with
    | nil => rfl
    | cons y vs =>
      show (if j = k then (j, v) else (j, y)) :: (ks.zip vs).map _ = (j, if j = k then v else y) :: ks.zip (replK ks vs k v)
      rw [ih]
      by_cases c : j = k
      · rw [if_pos c, if_pos c]
      · rw [if_neg c, if_neg c]
theorem putK_zip {ks : List Key} {vs : List V} {k : Key} {v : V} (h : ks.length = vs.length) : putK (ks.zip vs) k v = (putKs ks k).zip (putXs ks vs k v) := by
  unfold putK putKs putXs
  rw [any_mem h]
  by_cases c : k ∈ ks
  · rw [if_pos (decide_eq_true c), if_pos c, if_pos c, map_zip]
  · rw [if_neg (by rw [decide_eq_false c]; exact fun z => nomatch z), if_neg c, if_neg c]
    rw [List.zip_append h]
    rfl
theorem RpA.put {ks : List Key} {vs : List V} {xs : List PyData} {k : Key} {v : V} {x : PyData} (r : RpA K F vs xs) (q : Rp K F v x) : RpA K F (putXs ks vs k v) (putXs ks xs k x) := by
  unfold putXs
  by_cases c : k ∈ ks
  · rw [if_pos c, if_pos c]; exact r.repl q
  · rw [if_neg c, if_neg c]; exact r.append (.cons q .nil)
theorem rp_key {v : V} {k : Key} (h : Rp K F v (keyD k)) : v = kV k := by
  cases k with
  | inl i => exact h.int_inv
  | inr s => exact h.str_inv
theorem key_rp (k : Key) : Rp K F (kV k) (keyD k) := by
  cases k with
  | inl i => exact .int i
  | inr s => exact .str s
end
section
variable {B : Bs} {K : Fr} {F H : Hp} {σ : L2.St} {ρ : En} {ty tv tx : TE} {Q : R → En → Prop} {QD : PyData → En → Prop} {Z : Zs}
theorem we_dnewO (q : Q (.newD [] []) ρ) : WE B K tDNewK ρ Q := fun F H σ E QQ k p hp =>
  k _ (.newD [] []) F _ ρ (E.allocO hp) (Ex.refl F) ⟨p, [], rfl, E.fh.free hp, upd_same, rfl, .nil, E.h0p hp, fun i => E.fr hp i⟩ q
theorem wd_dinO {j : Nat} (h : WD B K ty ρ fun y ρ1 => ∃ k ks xs, y = keyD k ∧ ρ1[j]? = some (some (.ownD ks xs)) ∧ QD (.bool (decide (k ∈ ks))) ρ1) : WD B K (tDIn ty (tVar j)) ρ QD := fun F H σ E QQ kk =>
  h F H σ E _ fun v y F1 H1 ρ1 E1 e1 rv ⟨k, ks, xs, hy, hj, q⟩ => by
    subst hy
    rw [rp_key rv]
    obtain ⟨a, vs, ha, f1, f2, hl, f3⟩ := E1.ownD_at hj
    refine ⟨.ref a, ha, a, valV (ks.zip vs) k, rfl, DGet.k f2, ?_⟩
    rw [← valV_any, any_mem (by rw [f3.length]; exact hl)]
    exact kk _ _ F1 H1 ρ1 E1 e1 (.bl _) q
theorem wd_dnotinO {j : Nat} (h : WD B K ty ρ fun y ρ1 => ∃ k ks xs, y = keyD k ∧ ρ1[j]? = some (some (.ownD ks xs)) ∧ QD (.bool (!decide (k ∈ ks))) ρ1) : WD B K (tDNotIn ty (tVar j)) ρ QD := fun F H σ E QQ kk =>
  h F H σ E _ fun v y F1 H1 ρ1 E1 e1 rv ⟨k, ks, xs, hy, hj, q⟩ => by
    subst hy
    rw [rp_key rv]
    obtain ⟨a, vs, ha, f1, f2, hl, f3⟩ := E1.ownD_at hj
    refine ⟨.ref a, ha, a, valV (ks.zip vs) k, rfl, DGet.k f2, ?_⟩
    rw [← valV_any, any_mem (by rw [f3.length]; exact hl)]
    exact kk _ _ F1 H1 ρ1 E1 e1 (.bl _) q
theorem wd_dgetO {j : Nat} {ks0 : List Key} {xs0 : List PyData} (hj0 : ρ[j]? = some (some (.ownD ks0 xs0))) (h : WD B K ty ρ fun y ρ1 => ∃ k ks xs x, y = keyD k ∧ ρ1[j]? = some (some (.ownD ks xs)) ∧ getK ks xs k = some x ∧ QD x ρ1) : WD B K (tDGet (tVar j) ty) ρ QD := fun F H σ E QQ kk => by
  obtain ⟨a, vs0, ha, _⟩ := E.ownD_at hj0
  refine ⟨.ref a, ha, h F H σ E _ fun v y F1 H1 ρ1 E1 e1 rv ⟨k, ks, xs, x, hy, hj, hx, q⟩ => ?_⟩
  subst hy
  rw [rp_key rv]
  obtain ⟨a', vs, ha', f1, f2, hl, f3⟩ := E1.ownD_at hj
  rw [ha] at ha'
  cases ha'
  obtain ⟨w, hw, rw'⟩ := (f3.getK (ks := ks) (k := k)).1 x hx
  exact ⟨a, w, rfl, by rw [← hw, ← valV_get]; exact DGet.k f2, kk _ _ F1 H1 ρ1 E1 e1 rw' q⟩
theorem wd_dget2O {j : Nat} {ks0 : List Key} {xs0 : List PyData} (hj0 : ρ[j]? = some (some (.ownD ks0 xs0))) (h : WD B K ty ρ fun y ρ1 => WD B K tx ρ1 fun z ρ2 => ∃ k ks xs, y = keyD k ∧ ρ2[j]? = some (some (.ownD ks xs)) ∧ QD ((getK ks xs k).getD z) ρ2) : WD B K (tDGet2 (tVar j) ty tx) ρ QD := fun F H σ E QQ kk => by
  obtain ⟨a, vs0, ha, _, f0, _⟩ := E.ownD_at hj0
  refine ⟨.ref a, ha, a, rfl, .inl ⟨_, .inl f0⟩, h F H σ E _ fun v y F1 H1 ρ1 E1 e1 rv q1 => q1 F1 H1 σ E1 _ fun u z F2 H2 ρ2 E2 e2 ru ⟨k, ks, xs, hy, hj, q⟩ => ?_⟩
  subst hy
  rw [rp_key rv]
  obtain ⟨a', vs, ha', f1, f2, hl, f3⟩ := E2.ownD_at hj
  rw [ha] at ha'
  cases ha'
  refine ⟨valV (ks.zip vs) k, DGet.k f2, ?_⟩
  obtain ⟨g1, g2⟩ := f3.getK (ks := ks) (k := k)
  rw [valV_get]
  cases e : SV.getK ks xs k with
  | none =>
    rw [g2 e]
    rw [e] at q
    exact kk _ _ F2 H2 ρ2 E2 (e1.trans e2) ru q
  | some x =>
    obtain ⟨w, hw, rw'⟩ := g1 x e
    rw [hw]
    rw [e] at q
    exact kk _ _ F2 H2 ρ2 E2 (e1.trans e2) rw' q
theorem ws_dputO {j : Nat} (h : WD B K tv ρ fun x ρ1 => (∃ ks xs, ρ1[j]? = some (some (.ownD ks xs))) ∧ WD B K ty ρ1 fun y ρ2 => ∃ k ks xs, y = keyD k ∧ ρ2[j]? = some (some (.ownD ks xs)) ∧ ks.length < lim ∧ Z.nx (ρ2.set j (some (.ownD (putKs ks k) (putXs ks xs k x))))) : WS B K (sDPut (tVar j) ty tv) ρ Z := fun F H σ E D ok =>
  h F H σ E _ fun v x F1 H1 ρ1 E1 e1 rv ⟨⟨ks0, xs0, hj0⟩, q1⟩ => by
    obtain ⟨a, vs0, ha, _⟩ := E1.ownD_at hj0
    refine ⟨.ref a, ha, q1 F1 H1 σ E1 _ fun u y F2 H2 ρ2 E2 e2 ru ⟨k, ks, xs, hy, hj, hz, q⟩ => ?_⟩
    subst hy
    rw [rp_key ru]
    obtain ⟨a', vs, ha', f1, f2, hl, f3⟩ := E2.ownD_at hj
    rw [ha] at ha'
    cases ha'
    have hlv : ks.length = vs.length := by rw [f3.length]; exact hl
    refine ⟨a, _, rfl, DPut.k f2 (by rw [List.length_zip, ← hlv, Nat.min_self]; exact lim_lt hz), ?_⟩
    rw [putK_zip hlv]
    exact ok.nx F2 _ _ _ (E2.writeD hj ha (put_len hl) (f3.put (Rp.mono e2 rv))) (e1.trans e2) q
theorem wd_lenDO {j : Nat} {ks : List Key} {xs : List PyData} (hj : ρ[j]? = some (some (.ownD ks xs))) (q : QD (.int ks.length) ρ) : WD B K (tCB (fun xs H Q => ∃ a kvs, xs = [V.ref a] ∧ H a = some (.dK kvs) ∧ Q (.int kvs.length) H) (tCons (tVar j) tNil)) ρ QD := fun F H σ E QQ kk => by
  obtain ⟨a, vs, ha, f1, f2, hl, f3⟩ := E.ownD_at hj
  refine ⟨.ref a, ha, a, _, rfl, f2, kk _ _ F H ρ E (Ex.refl F) ?_ q⟩
  rw [List.length_zip, f3.length, hl, Nat.min_self]
  exact .int _
/-- the base that guards some new objects -/
def gdH (B : Bs) (H : Hp) (us : List Addr) : Hp := fun a => if a ∈ us then H a else B.H0 a
theorem EnvOk.guard (E : EnvOk B K F H σ ρ) {us : List Addr} (fr : Free B σ ρ us) (lv : ∀ a, a ∈ us → F a = none ∧ ∃ o, H a = some o) :
    EnvOk ⟨F, gdH B H us, B.pin⟩ K F H σ ρ ∧ ∀ F2 H2 ρ2, EnvOk ⟨F, gdH B H us, B.pin⟩ K F2 H2 σ ρ2 → EnvOk B K F2 H2 σ ρ2 ∧ (∀ a, a ∈ us → F2 a = none ∧ H2 a = H a) ∧ Free B σ ρ2 us := by
  have yes : ∀ a, a ∈ us → gdH B H us a = H a := fun a ha => if_pos ha
  have no : ∀ a, a ∉ us → gdH B H us a = B.H0 a := fun a ha => if_neg ha
  have nof : ∀ i a, SFp σ ρ i a → a ∉ us := fun i a h z => (fr a z).2 i h
  have pinf : ∀ i a, B.pin = some (i, a) → a ∉ us := fun i a e z => by
    obtain ⟨q1, q2⟩ := E.pin i a e
    rcases q2 with ⟨⟨xs, q2⟩, _⟩ | ⟨⟨ks, xs, q2⟩, _⟩
    · exact nof i a ⟨_, _, q2, q1, rfl⟩ z
    · exact nof i a ⟨_, _, q2, q1, rfl⟩ z
  have live : ∀ a, a ∈ us → gdH B H us a ≠ none := fun a ha => by
    obtain ⟨_, o, e⟩ := lv a ha
    rw [yes a ha, e]
    exact fun z => nomatch z
  have b0 : ∀ a, gdH B H us a = none → a ∉ us ∧ B.H0 a = none := fun a h => by
    have c : a ∉ us := fun z => live a z h
    exact ⟨c, by rw [← no a c]; exact h⟩
  constructor
  · refine ⟨⟨Ex.refl F, E.fh, fun a o e n => ?_, fun a h => ?_, fun a h _ => h⟩, E.len, E.sl, E.sep, fun i a h => ?_, fun i a e => ?_⟩
    · by_cases c : a ∈ us
      · rw [show (⟨F, gdH B H us, B.pin⟩ : Bs).H0 a = H a from yes a c] at e; exact e
      · rw [show (⟨F, gdH B H us, B.pin⟩ : Bs).H0 a = B.H0 a from no a c] at e; exact E.st.h0 a o e n
    · by_cases c : a ∈ us
      · rw [show (⟨F, gdH B H us, B.pin⟩ : Bs).H0 a = H a from yes a c] at h; exact h
      · rw [show (⟨F, gdH B H us, B.pin⟩ : Bs).H0 a = B.H0 a from no a c] at h; exact E.st.th a h
    · rw [show (⟨F, gdH B H us, B.pin⟩ : Bs).H0 a = B.H0 a from no a (nof i a h)]; exact E.mine i a h
    · rw [show (⟨F, gdH B H us, B.pin⟩ : Bs).H0 a = B.H0 a from no a (pinf i a e)]; exact E.pin i a e
  · intro F2 H2 ρ2 E2
    refine ⟨⟨⟨E.st.f0.trans E2.st.f0, E2.st.fh, fun a o e n => ?_, fun a h => ?_, fun a h1 h2 => ?_⟩, E2.len, E2.sl, E2.sep, fun i a h => ?_, fun i a e => ?_⟩, fun a ha => ?_, fun a ha => ⟨(fr a ha).1, fun i h => ?_⟩⟩
    · have c : a ∉ us := fun z => by rw [(fr a z).1] at e; cases e
      exact E2.st.h0 a o ((no a c).trans e) n
    · have c : a ∉ us := fun z => h (fr a z).1
      exact E2.st.th a fun z => h ((no a c).symm.trans z)
    · have c : a ∉ us := fun z => h2 (fr a z).1
      exact E2.st.nf a (E.st.nf a h1 h2) fun z => h2 ((no a c).symm.trans z)
    · rcases E2.mine i a h with k | k
      · exact .inl (b0 a k).2
      · exact .inr k
    · obtain ⟨q1, q2⟩ := E2.pin i a e
      rw [show (⟨F, gdH B H us, B.pin⟩ : Bs).H0 a = B.H0 a from no a (pinf i a e)] at q2
      exact ⟨q1, q2⟩
    · obtain ⟨k1, o, k2⟩ := lv a ha
      refine ⟨E2.st.nf a k1 (live a ha), ?_⟩
      rw [k2]
      exact E2.st.h0 a o ((yes a ha).trans k2) fun i z => pinf i a z ha
    · rcases E2.mine i a h with k | k
      · exact live a ha k
      · exact pinf i a k ha
/-- {k: x} -/
theorem we_disp1 (h : ∀ B' : Bs, B'.pin = B.pin → WD B' K ty ρ fun y ρ1 => WD B' K tv ρ1 fun x ρ2 => ∃ k, y = keyD k ∧ Q (.newD [k] [x]) ρ2) : WE B K (tDisp [(ty, tv)]) ρ Q := fun F H σ E QQ kk p hp => by
  have E0 := E.allocO (o := .dK []) hp
  have fr : Free B σ ρ [p] := fun a ha => by rw [List.mem_singleton.mp ha]; exact ⟨E.h0p hp, fun i => E.fr hp i⟩
  have lv : ∀ a, a ∈ [p] → F a = none ∧ ∃ o, upd H p (.dK []) a = some o := fun a ha => by rw [List.mem_singleton.mp ha]; exact ⟨E.fh.free hp, _, upd_same⟩
  obtain ⟨g1, g2⟩ := E0.guard fr lv
  refine h ⟨F, gdH B (upd H p (.dK [])) [p], B.pin⟩ rfl F _ σ g1 _ fun u y F1 H1 ρ1 E1 e1 ru q1 => q1 F1 H1 σ E1 _ fun v x F2 H2 ρ2 E2 e2 rv ⟨k, hy, q⟩ => ?_
  subst hy
  rw [rp_key ru]
  obtain ⟨E3, keep, fr3⟩ := g2 F2 H2 ρ2 E2
  obtain ⟨f1, f2⟩ := keep p List.mem_cons_self
  rw [upd_same] at f2
  refine ⟨f2, [(k, v)], rfl, (show 1 ≤ 15 by decide), ?_⟩
  have E4 := E3.poke (p := p) (o := .dK [(k, v)]) f1 (fr3 p List.mem_cons_self).1 (fr3 p List.mem_cons_self).2
  refine kk _ (.newD [k] [x]) F2 _ ρ2 E4 (e1.trans e2) ⟨p, [v], rfl, f1, ?_, rfl, .cons rv .nil, (fr3 p List.mem_cons_self).1, (fr3 p List.mem_cons_self).2⟩ q
  exact upd_same
end
end SV

set_option maxHeartbeats 1000000
namespace SV
open PySem PySem.Spec L2 PyProof.Rows
open Evl (Ex)
/-! ### a < b < c of ints -/
section
variable {B : Bs} {K : Fr} {ρ : En} {ta tb tc te : TE} {Q : R → En → Prop} {QD : PyData → En → Prop} {Z : Zs}
theorem wd_chain {p q : Int → Int → Bool} (h : WD B K ta ρ fun x ρ1 => ∃ i, x = .int i ∧ WD B K tb ρ1 fun y ρ2 => ∃ j, y = .int j ∧ (p i j = true → WD B K tc ρ2 fun z ρ3 => ∃ k, z = .int k ∧ QD (.bool (q j k)) ρ3) ∧ (p i j = false → QD (.bool false) ρ2)) :
    WD B K (tChain (rI0 fun i j => .bl (p i j)) (rI0 fun i j => .bl (q i j)) ta tb tc) ρ QD := fun F H σ E QQ k =>
  h F H σ E _ fun v x F1 H1 ρ1 E1 e1 rv ⟨i, hx, q1⟩ => q1 F1 H1 σ E1 _ fun u y F2 H2 ρ2 E2 e2 ru ⟨j, hy, q2, q3⟩ => by
    subst hx hy
    cases rv; cases ru
    refine ⟨i, j, rfl, rfl, p i j, rfl, ?_⟩
    cases c : p i j with
    | true =>
      show tc σ H2 _
      exact q2 c F2 H2 σ E2 _ fun w z F3 H3 ρ3 E3 e3 rw' ⟨l, hz, q4⟩ => by
        subst hz
        cases rw'
        exact ⟨j, l, rfl, rfl, k _ _ F3 H3 ρ3 E3 (e1.trans (e2.trans e3)) (.bl _) q4⟩
    | false =>
      show QQ (.bl false) H2
      exact k _ _ F2 H2 ρ2 E2 (e1.trans e2) (.bl _) (q3 c)
/-! ### text.split(sep) -/
abbrev rSplit : V → List V → Hp → VK → Prop := fun x xs H Q => ∃ a b, x = .str a ∧ xs = [.str b] ∧ (b.length == 0) = false ∧ a.length + 2 ≤ sizeLine ∧ rNewStrs (Txt.split a b) H Q
theorem we_split (h : WD B K ta ρ fun x ρ1 => ∃ a, x = .str a ∧ WD B K tb ρ1 fun y ρ2 => ∃ b, y = .str b ∧ ((b.length == 0) = false ∧ a.length < lim) ∧ Q (.new ((Txt.split a b).map .str)) ρ2) : WE B K (tM1 rSplit ta tb) ρ Q := fun F H σ E QQ k =>
  h F H σ E _ fun v x F1 H1 ρ1 E1 e1 rv ⟨a, hx, q1⟩ => by
    subst hx
    cases rv
    refine ⟨⟨a, rfl⟩, q1 F1 H1 σ E1 _ fun u y F2 H2 ρ2 E2 e2 ru ⟨b, hy, ⟨hb, ha⟩, q2⟩ => ?_⟩
    subst hy
    cases ru
    refine ⟨a, b, rfl, rfl, hb, Nat.le_trans (show a.length + 2 ≤ 1000002 by unfold lim at ha; omega) (by decide), fun p hp => ?_⟩
    obtain ⟨E3, r3⟩ := new_ok E2 hp (RpA.of_strs (K := K) (F := F2) (Txt.split a b))
    exact k _ _ F2 _ ρ2 E3 (e1.trans e2) r3 q2
end
/-! ### sorted(xs) of tuples of ints: by the first where they differ -/
def lexI : List Int → List Int → Bool
  | [], [] => false
  | [], _ :: _ => true
  | _ :: _, [] => false
  | x :: r, y :: t => if x = y then lexI r t else decide (x < y)
theorem lexI_asym : ∀ a b : List Int, lexI a b = true → lexI b a = false
  | [], [], h => by simp [lexI] at h
  | [], _ :: _, _ => rfl
  | _ :: _, [], h => by simp [lexI] at h
  | x :: r, y :: t, h => by
    unfold lexI at h ⊢
    by_cases c : x = y
    · rw [if_pos c] at h
      rw [if_pos c.symm]
      exact lexI_asym r t h
    · rw [if_neg c, decide_eq_true_eq] at h
      rw [if_neg fun z => c z.symm, decide_eq_false_iff_not]
      omega
theorem lexI_eq : ∀ a b : List Int, lexI a b = false → lexI b a = false → a = b
  | [], [], _, _ => rfl
  | [], _ :: _, h, _ => by simp [lexI] at h
  | _ :: _, [], _, h => by simp [lexI] at h
  | x :: r, y :: t, h1, h2 => by
    unfold lexI at h1 h2
    by_cases c : x = y
    · rw [if_pos c] at h1
      rw [if_pos c.symm] at h2
      rw [c, lexI_eq r t h1 h2]
    · rw [if_neg c, decide_eq_false_iff_not] at h1
      rw [if_neg fun z => c z.symm, decide_eq_false_iff_not] at h2
      omega
theorem lexI_tr : ∀ a b c : List Int, lexI b a = false → lexI c b = false → lexI c a = false
  | [], [], c, _, h2 => h2
  | [], _ :: _, [], _, _ => rfl
  | [], _ :: _, _ :: _, _, _ => rfl
  | _ :: _, [], _, h1, _ => by simp [lexI] at h1
  | x :: r, y :: t, [], _, h2 => by simp [lexI] at h2
  | x :: r, y :: t, z :: u, h1, h2 => by
    unfold lexI at h1 h2 ⊢
    by_cases c1 : y = x
    · rw [if_pos c1] at h1
      by_cases c2 : z = y
      · rw [if_pos c2] at h2
        rw [if_pos (c2.trans c1)]
        exact lexI_tr r t u h1 h2
      · rw [if_neg c2] at h2
        rw [if_neg fun e => c2 (e.trans c1.symm), ← c1]
        exact h2
    · rw [if_neg c1, decide_eq_false_iff_not] at h1
      by_cases c2 : z = y
      · rw [if_neg fun e => c1 (c2.symm.trans e), c2, decide_eq_false_iff_not]
        exact h1
      · rw [if_neg c2, decide_eq_false_iff_not] at h2
        rw [if_neg (by omega), decide_eq_false_iff_not]
        omega
theorem lexI_swo {α : Type} (k : α → List Int) : SrtO.Swo fun v u => lexI (k v) (k u) :=
  ⟨fun x y h => lexI_asym _ _ h, fun x y z h1 h2 => lexI_tr _ _ _ h1 h2⟩
section
variable {prog : Program} {w : World} {A : Around} {E : Value → Shared → Prop} {s : Shared}
theorem kat_ints {b fin : Bool} {Q : Bool → Shared → Prop} : ∀ {us ws : List Value} {as bs : List Int} (i : Nat), IntsAre us as → IntsAre ws bs → fin = decide (us.length < ws.length) → Q (lexI as bs) s → PySem.W.KatLex prog w A b fin Q (us.zip ws) i s
  | _, _, _, _, i, .nil, .nil, hf, h => by
    have e : fin = false := by rw [hf]; rfl
    subst e
    exact PySem.W.kat_nil h
  | _, _, _, _, i, .nil, .cons n t r, hf, h => by
    have e : fin = true := by rw [hf]; exact decide_eq_true (Nat.succ_pos _)
    subst e
    exact PySem.W.kat_nil h
  | _, _, _, _, i, .cons n t r, .nil, hf, h => by
    have e : fin = false := by rw [hf]; exact decide_eq_false (Nat.not_lt_zero _)
    subst e
    exact PySem.W.kat_nil h
  | _, _, _, _, i, .cons n t r, .cons m u r2, hf, h => by
    refine PySem.W.kat_cons (wpAny_eqBool_int ?_)
    refine PySem.W.kat_go (fun e => PySem.W.kat_yes ?_) (fun e => PySem.W.kat_no ?_)
    · have hnm : n = m := by simpa using e
      subst hnm
      refine kat_ints (i + 1) r r2 (by rw [hf]; simp only [List.length_cons, Nat.add_lt_add_iff_right]) ?_
      unfold lexI at h
      rw [if_pos rfl] at h
      exact h
    · have hnm : ¬ n = m := by simpa using e
      unfold lexI at h
      rw [if_neg hnm] at h
      exact oneLt_any_int h
/-- v is a tuple of these ints -/
def IsTI (h : Heap) (v : Value) (ns : List Int) : Prop := ∃ a o us n, v = .ref a ∧ h.get? a = some o ∧ o.cls = .type "tuple" ∧ o.data = .seq us n ∧ IntsAre us.toList ns
theorem IsTI.keeps {h h' : Heap} {v : Value} {ns : List Int} (p : IsTI h v ns) (k : ∀ b o, h.get? b = some o → o.cls = .type "tuple" → h'.get? b = some o) : IsTI h' v ns := by
  obtain ⟨a, o, us, n, e, ho, hc, hd, hi⟩ := p
  exact ⟨a, o, us, n, e, k _ _ ho hc, hc, hd, hi⟩
theorem ti_cmp {vs : List Value} {k : Value → List Int} (hp : ∀ v ∈ vs, IsTI s.heap v (k v)) : SrtO.Cmp prog w A s (tuples' true) (fun p => p.1 ∈ vs) (SrtO.lt2 fun v u => lexI (k v) (k u)) := by
  intro p q hm hm'
  have h1 := hp _ hm
  have h2 := hp _ hm'
  show wpAny (model prog w) A (keyLt' (tuples' true) p.1 q.1) (fun r s' => s' = s ∧ r = lexI (k p.1) (k q.1)) (fun _ _ => False) s
  generalize k p.1 = as at h1 ⊢
  generalize k q.1 = bs at h2 ⊢
  obtain ⟨a, o, us, n, e, ho, hc, hd, hi⟩ := h1
  obtain ⟨a', o', us', n', e', ho', hc', hd', hi'⟩ := h2
  rw [e, e']
  exact PySem.W.kat_lt ho hd ho' hd' (kat_ints 0 hi hi' (by rw [Array.length_toList, Array.length_toList]) ⟨rfl, rfl⟩)
theorem ti_firsts {h : Heap} : ∀ {vs : List Value}, (∀ v ∈ vs, ∃ n ns, IsTI h v (n :: ns)) → ∃ fs : List Value, PySem.W.KatTups h vs fs ∧ fs.length = vs.length ∧ ∀ f ∈ fs, ∃ x t, f = Value.int x t
  | [], _ => ⟨[], PySem.W.KatTups.nil, rfl, fun _ hm => by simp at hm⟩
  | v :: vs, hp => by
    obtain ⟨fs, h1, h2, h3⟩ := ti_firsts (vs := vs) fun v' hm => hp v' (List.mem_cons_of_mem _ hm)
    obtain ⟨x, ns, a, o, us, n, e, ho, hc, hd, hi⟩ := hp v (List.mem_cons_self ..)
    subst e
    generalize hl : us.toList = l at hi
    cases hi with
    | cons _ t r =>
      refine ⟨.int x t :: fs, PySem.W.KatTups.cons ho hc hd (by rw [← Array.getElem?_toList, hl]; rfl) h1, by rw [List.length_cons, List.length_cons, h2], fun f hm => ?_⟩
      rcases List.mem_cons.mp hm with rfl | hm
      · exact ⟨x, t, rfl⟩
      · exact h3 f hm
theorem ti_sortable {a : Addr} {vs : List Value} {k : Value → List Int} (h0 : 0 < vs.length) (hp : ∀ v ∈ vs, IsTI s.heap v (k v)) (hk : ∀ v ∈ vs, k v ≠ []) (ha : ∀ o, s.heap.get? a = some o → o.cls ≠ .type "tuple") : SrtO.SortableO prog w A s a vs fun v u => lexI (k v) (k u) := by
  intro h' keep
  have hp' : ∀ v ∈ vs, IsTI h' v (k v) := fun v hm => (hp v hm).keeps fun b o e c => keep b o (fun z => by subst z; exact ha o e c) e
  obtain ⟨fs, h1, h2, h3⟩ := ti_firsts fun v hm => by
    have e := hp' v hm
    have n := hk v hm
    cases q : k v with
    | nil => exact absurd q n
    | cons x ns => rw [q] at e; exact ⟨x, ns, e⟩
  refine ⟨tuples' true, fun Q E hq => ?_, ti_cmp hp'⟩
  refine PySem.W.kat_kind (T := .type "int") h1 (by omega) (fun f hm => ?_) (by rfl) ?_
  · obtain ⟨x, t, rfl⟩ := h3 f hm
    exact PySem.W.Looks.now
  · have e : (Value.type "int" != Value.type "tuple") = true := by first | decide +kernel | rfl | decide
    rw [e]
    exact hq
theorem sorted_ti {l : Addr} {vs : List Value} {k : Value → List Int} {Q : Value → Shared → Prop} (hl : s.heap.IsList l vs.toArray) (hz : vs.length ≤ sizeLine) (hp : ∀ v ∈ vs, IsTI s.heap v (k v)) (hk : ∀ v ∈ vs, k v ≠ [])
    (h : ∀ (h' : Heap) (d : Addr) (out : List Value), SrtO.Srtd (fun v u => lexI (k v) (k u)) out → out.Perm vs → (∀ b o, s.heap.get? b = some o → h'.get? b = some o) → s.heap.objs.size ≤ d → (∃ n, h'.get? d = some (seqObj "list" out.toArray n)) → Q (.ref d) { s with heap := h' }) :
    wpAny (model prog w) A (call (.builtin "sorted") [.ref l]) Q E s := by
  refine SrtO.sorted_ord (lexI_swo k) hl hz (fun h2 h₁ a ha kk => ?_) fun out hs hb => ?_
  · refine ti_sortable (s := { s with heap := h₁ }) (by omega) (fun v hm => (hp v hm).keeps fun b o e _ => (kk b o e).2) hk fun o e => ?_
    have e' : some o = some (seqObj "list" vs.toArray 0) := e.symm.trans ha
    cases e'
    intro c
    exact absurd (Value.type.inj c) (by decide)
  · exact h _ _ out hs hb.perm (fun b o e => sortedAll_old e) (Nat.le_succ _) (sortedAll_at s.heap vs out.toArray)
end
/-- sorted(xs): xs a list of tuples of ints -/
def rSortTI (K : Fr) : List V → Hp → VK → Prop := fun vs H Q => ∃ (a : Addr) (ps : List (V × List Int)), vs = [V.ref a] ∧ SqL K H a (ps.map (·.1)) ∧ (∀ p ∈ ps, p.2 ≠ [] ∧ ∃ t, p.1 = V.ref t ∧ SqT K H t (p.2.map V.int)) ∧
  ∀ (qs : List (V × List Int)) p, qs.Perm ps → qs.Pairwise (fun x y => lexI y.2 x.2 = false) → H p = none → Q (.ref p) (upd H p (.lst (qs.map (·.1))))
noncomputable def keyOf (ps : List (V × List Int)) (x : V) : List Int := @dite _ (∃ ns, (x, ns) ∈ ps) (Classical.propDecidable _) (fun h => Classical.choose h) (fun _ => [])
theorem keyOf_in {ps : List (V × List Int)} {p : V × List Int} (h : p ∈ ps) : (p.1, keyOf ps p.1) ∈ ps := by
  have e : ∃ ns, (p.1, ns) ∈ ps := ⟨p.2, h⟩
  unfold keyOf
  rw [dif_pos e]
  exact Classical.choose_spec e
theorem map_int_inj : ∀ {ns ms : List Int}, ns.map V.int = ms.map V.int → ns = ms
  | [], [], _ => rfl
  | [], _ :: _, h => by simp at h
  | _ :: _, [], h => by simp at h
  | n :: ns, m :: ms, h => by
    rw [List.map_cons, List.map_cons] at h
    obtain ⟨h1, h2⟩ := List.cons.inj h
    cases h1
    rw [map_int_inj h2]
theorem cr_sortTI {X : Cx} : CallR X (.builtin "sorted") (rSortTI X.K) := by
  intro pins s σ H vs us Q I r h
  obtain ⟨a, ps, rfl, hs, hx, q⟩ := h
  obtain ⟨its, rv, hl, hz⟩ := I.list hs
  obtain ⟨u, rfl, ru⟩ := vals1 r
  obtain rfl : u = Value.ref a := ru
  obtain ⟨e1, e2⟩ := refs_back rv fun x m => by
    obtain ⟨p, hp, rfl⟩ := List.mem_map.mp m
    obtain ⟨_, t, e, _⟩ := hx p hp
    exact ⟨t, e⟩
  have kk : ∀ p, p ∈ ps → keyOf ps p.1 = p.2 := fun p hp => by
    obtain ⟨_, t, e, ht⟩ := hx p hp
    obtain ⟨_, t', e', ht'⟩ := hx _ (keyOf_in hp)
    rw [show (p.1, keyOf ps p.1).1 = p.1 from rfl, e] at e'
    cases e'
    exact map_int_inj (I.tuple_inj ht' ht)
  let k : Value → List Int := fun u => keyOf ps (backV u)
  have back : ∀ v, v ∈ its → ∃ t, v = Value.ref t ∧ (V.ref t, k v) ∈ ps ∧ k v ≠ [] ∧ SqT X.K H t ((k v).map V.int) := fun v hv => by
    obtain ⟨t, rfl⟩ := e2 v hv
    have hm : V.ref t ∈ ps.map (·.1) := by rw [e1]; exact List.mem_map.mpr ⟨_, hv, rfl⟩
    obtain ⟨p, hp, ep⟩ := List.mem_map.mp hm
    obtain ⟨hk, t', e, ht⟩ := hx p hp
    have e3 := kk p hp
    rw [ep] at e e3
    cases e
    have e4 : k (.ref t) = p.2 := e3
    rw [e4]
    exact ⟨t, rfl, by rw [← ep]; exact hp, hk, ht⟩
  refine sorted_ti (k := k) hl.isList (by rw [← rv.length]; exact hz) (fun v hv => ?_) (fun v hv => ?_) fun h' d out h1 h2 kp hd hn => ?_
  · obtain ⟨t, e, hm, hk, ht⟩ := back v hv
    obtain ⟨its2, r2, ⟨o, ho, hc, n, hdt⟩, _⟩ := I.tuple ht
    exact ⟨t, o, its2.toArray, n, e, ho, hc, hdt, by simpa using r2.ints⟩
  · obtain ⟨t, e, hm, hk, ht⟩ := back v hv
    exact hk
  · have h3 : ∀ u ∈ out, ∃ a, u = Value.ref a := fun u hu => e2 u (h2.mem_iff.mp hu)
    obtain ⟨n, hn⟩ := hn
    have e5 : its.map (fun u => (backV u, k u)) = ps := by
      have e6 : its.map (fun u => (backV u, k u)) = (its.map backV).map fun x => (x, keyOf ps x) := by rw [List.map_map]; rfl
      rw [e6, ← e1, List.map_map]
      have e7 : ps.map ((fun x => (x, keyOf ps x)) ∘ fun p => p.1) = ps.map id := List.map_congr_left fun p hp => by
        show (p.1, keyOf ps p.1) = p
        rw [kk p hp]
      rw [e7, List.map_id]
    have hb : (out.map fun u => (backV u, k u)).Perm ps := by
      rw [← e5]
      exact h2.map _
    have e8 : (out.map fun u => (backV u, k u)).map (·.1) = out.map backV := by rw [List.map_map]; rfl
    have hq := q (out.map fun u => (backV u, k u)) d hb (by
      rw [List.pairwise_map]
      exact h1) (I.hok.fresh hd)
    rw [e8] at hq
    refine ⟨.ref d, upd H d (.lst (out.map backV)), I.laid (t' := s.toks) kp hd ⟨?_, out, n, vals_back h3, hn⟩, rfl, hq⟩
    have e9 := hb.length_eq
    rw [List.length_map] at e9 hz ⊢
    rw [e9]
    exact hz
theorem k_sortTI {X : Cx} (K : Fr) (h : X.K = K := by rfl) : CallR X (.builtin "sorted") (rSortTI K) := h ▸ cr_sortTI
theorem k_sortI {X : Cx} (K : Fr) (h : X.K = K := by rfl) : CallR X (.builtin "sorted") (rSortedI K) := h ▸ cr_sortedI
/-- a tuple of ints -/
def tiD (ns : List Int) : PyData := .tuple (ns.map .int)
theorem RpA.split_ti {K : Fr} {F : Hp} : ∀ {vs : List V} {ts : List (List Int)}, RpA K F vs (ts.map tiD) → ∃ ps : List (V × List Int), ps.map (·.1) = vs ∧ ps.map (·.2) = ts ∧ ∀ p, p ∈ ps → Rp K F p.1 (tiD p.2)
  | [], [], .nil => ⟨[], rfl, rfl, fun _ h => nomatch h⟩
  | v :: vs, t :: ts, .cons h r => by
    obtain ⟨ps, h1, h2, h3⟩ := RpA.split_ti r
    exact ⟨(v, t) :: ps, by rw [List.map_cons, h1], by rw [List.map_cons, h2], fun p hp => (List.mem_cons.mp hp).elim (fun e => by subst e; exact h) (h3 p)⟩
theorem RpA.of_ps {K : Fr} {F : Hp} : ∀ {ps : List (V × List Int)}, (∀ p, p ∈ ps → Rp K F p.1 (tiD p.2)) → RpA K F (ps.map (·.1)) ((ps.map (·.2)).map tiD)
  | [], _ => .nil
  | p :: ps, h => .cons (h p List.mem_cons_self) (RpA.of_ps fun q hq => h q (List.mem_cons_of_mem _ hq))
section
variable {B : Bs} {K : Fr} {ρ : En} {ta te : TE} {Q : R → En → Prop}
/-- a is no later than b -/
def leI (a b : List Int) : Prop := lexI b a = false
theorem we_sortTI (h : WD B K te ρ fun x ρ1 => ∃ ts : List (List Int), x = .list (ts.map tiD) ∧ (∀ t, t ∈ ts → t ≠ []) ∧ ∀ ts' : List (List Int), ts'.Perm ts → ts'.Pairwise leI → Q (.new (ts'.map tiD)) ρ1) : WE B K (tCB (rSortTI K) (tCons te tNil)) ρ Q := fun F H σ E QQ k =>
  h F H σ E _ fun v x F1 H1 ρ1 E1 e1 rv ⟨ts, hx, hne, q⟩ => by
    subst hx
    cases rv with
    | @lst a vs xs ha ra =>
    obtain ⟨ps, h1, h2, h3⟩ := ra.split_ti
    refine ⟨a, ps, rfl, .inl (.inl (by rw [h1]; exact E1.fh _ _ ha)), fun p hp => ⟨hne _ (by rw [← h2]; exact List.mem_map.mpr ⟨p, hp, rfl⟩), ?_⟩, fun qs p pm pw hp => ?_⟩
    · have r := h3 p hp
      generalize p.1 = v at r ⊢
      cases r with
      | @tup t us ys ht rt =>
        have e := rt.ints
        subst e
        exact ⟨t, rfl, E1.fh.stt ht⟩
    · have h4 : ∀ p, p ∈ qs → Rp K F1 p.1 (tiD p.2) := fun p hp => h3 p (pm.mem_iff.mp hp)
      obtain ⟨E2, r2⟩ := new_ok E1 hp (RpA.of_ps h4)
      exact k _ _ F1 _ ρ1 E2 e1 r2 (q (qs.map (·.2)) (by rw [← h2]; exact pm.map _) (by rw [List.pairwise_map]; exact pw))
theorem we_sortI (h : WD B K te ρ fun x ρ1 => ∃ ns : List Int, x = .list (ns.map .int) ∧ ∀ ns' : List Int, ns'.Perm ns → ns'.Pairwise (· ≤ ·) → Q (.new (ns'.map .int)) ρ1) : WE B K (tCB (rSortedI K) (tCons te tNil)) ρ Q := fun F H σ E QQ k =>
  h F H σ E _ fun v x F1 H1 ρ1 E1 e1 rv ⟨ns, hx, q⟩ => by
    subst hx
    cases rv with
    | @lst a vs xs ha ra =>
    have e := ra.ints
    subst e
    refine ⟨a, ns, rfl, .inl (.inl (E1.fh _ _ ha)), fun ns' p pm pw hp => ?_⟩
    obtain ⟨E2, r2⟩ := new_ok E1 hp (RpA.of_ints (K := K) (F := F1) ns')
    exact k _ _ F1 _ ρ1 E2 e1 r2 (q ns' pm pw)
end
/-! ### for i, x in enumerate(xs); for x, y in zip(xs, ys) -/
def enD {α : Type} (f : α → PyData) (p : Nat × α) : PyData := .tuple [.int p.1, f p.2]
def enL {α : Type} (as : List α) : List (Nat × α) := (List.range as.length).zip as
theorem enL_at {α : Type} {as : List α} {i : Nat} {p : Nat × α} (h : (enL as)[i]? = some p) : p.1 = i ∧ as[i]? = some p.2 := by
  unfold enL at h
  rw [List.getElem?_zip_eq_some] at h
  obtain ⟨h1, h2⟩ := h
  have hi := (List.getElem?_eq_some_iff.mp h1).1
  rw [List.length_range] at hi
  rw [List.getElem?_range hi] at h1
  exact ⟨(Option.some.inj h1).symm, h2⟩
theorem enL_len {α : Type} {as : List α} : (enL as).length = as.length := by
  unfold enL
  rw [List.length_zip, List.length_range, Nat.min_self]
theorem enL_in {α : Type} {as : List α} {pre post : List (Nat × α)} {p : Nat × α} (h : enL as = pre ++ p :: post) : p.1 = pre.length ∧ as[pre.length]? = some p.2 ∧ pre = enL (as.take pre.length) := by
  have e : (enL as)[pre.length]? = some p := by rw [h, List.getElem?_append_right (Nat.le_refl _), Nat.sub_self]; rfl
  obtain ⟨h1, h2⟩ := enL_at e
  refine ⟨h1, h2, ?_⟩
  have hl := (List.getElem?_eq_some_iff.mp h2).1
  have e2 : (enL as).take pre.length = pre := by rw [h, List.take_left]
  have key : ∀ m, m ≤ as.length → (enL as).take m = enL (as.take m) := fun m hm => by
    unfold enL
    rw [List.zip_eq_zipWith, List.zip_eq_zipWith, List.take_zipWith, List.length_take, List.take_range, Nat.min_eq_left hm]
  rw [← key pre.length (Nat.le_of_lt hl), e2]
def zpD {α β : Type} (f : α → PyData) (g : β → PyData) (p : α × β) : PyData := .tuple [f p.1, g p.2]
section
variable {B : Bs} {K : Fr} {ρ : En} {ta tb te : TE} {Q : R → En → Prop} {Z : Zs}
theorem pair_new {F H : Hp} {σ : L2.St} (E : EnvOk B K F H σ ρ) {T : Addr} {x y : V} {d e : PyData} (hT : H T = none) (hx : Rp K F x d) (hy : Rp K F y e) : ∃ F', EnvOk B K F' (upd H T (.tup [x, y])) σ ρ ∧ Ex F F' ∧ Rp K F' (.ref T) (.tuple [d, e]) := by
  obtain ⟨E2, e2⟩ := E.alloc (o := .tup [x, y]) hT
  exact ⟨_, E2, e2, .tup (.inl (.inl upd_same)) (.cons (Rp.mono e2 hx) (.cons (Rp.mono e2 hy) .nil))⟩
theorem ws_forEn {α : Type} {g : TG} {tS : TS} (f : α → PyData) (h : WD B K te ρ fun x ρ1 => ∃ as : List α, x = .list (as.map f) ∧ Loop B K g tS (enD f) (enL as) ρ1 Z) : WS B K (tFor (iEnum K (tCons te tNil)) g tS) ρ Z := fun F H σ E D ok =>
  h F H σ E _ fun v x F1 H1 ρ1 E1 e1 rv ⟨as, hx, I, i0, is, id⟩ => by
    subst hx
    cases rv with
    | @lst a vs xs ha ra =>
    have hl : vs.length = as.length := by rw [ra.length, List.length_map]
    have sq : ∀ {F2 H2 : Hp}, Ex F1 F2 → Ex F2 H2 → SqL K H2 a vs := fun e fh => .inl (.inl (fh _ _ (e _ _ ha)))
    refine ⟨a, vs, rfl, .inl (.inl (E1.fh _ _ ha)), loop_gen (f := enD f) (as := enL as) (fun _ => True) E1 e1 ok (fun i p F2 H2 σ2 ρ2 ea E2 e2 _ => ?_) (fun i F2 H2 σ2 ρ2 hi E2 e2 _ => ⟨vs, sq e2 E2.fh, by rw [enL_len] at hi; omega⟩) (fun i p F2 H2 σ2 ρ2 y H' ea E2 e2 _ hy => ?_) I (fun _ _ _ => trivial) i0 is id⟩
    · obtain ⟨_, h2⟩ := enL_at ea
      obtain ⟨w, hw, _⟩ := at_map' ra h2
      exact ⟨vs, w, sq e2 E2.fh, hw⟩
    · obtain ⟨h1, h2⟩ := enL_at ea
      obtain ⟨T, w, rfl, hT, rfl, hw⟩ := hy
      unfold enD
      rw [h1]
      exact pair_new E2 hT (.int _) (Rp.mono e2 (at_map ra h2 (hw vs (sq e2 E2.fh))))
theorem ws_forZip {α β : Type} {g : TG} {tS : TS} (f : α → PyData) (f2 : β → PyData) (h : WD B K ta ρ fun x ρ1 => ∃ as : List α, x = .list (as.map f) ∧ WD B K tb ρ1 fun y ρ2 => ∃ bs : List β, y = .list (bs.map f2) ∧ Loop B K g tS (zpD f f2) (as.zip bs) ρ2 Z) : WS B K (tFor (iZip K (tCons ta (tCons tb tNil))) g tS) ρ Z := fun F H σ E D ok =>
  h F H σ E _ fun v x F1 H1 ρ1 E1 e1 rv ⟨as, hx, q⟩ => q F1 H1 σ E1 _ fun u y F3 H3 ρ3 E3 e3 ru ⟨bs, hy, I, i0, is, id⟩ => by
    subst hx hy
    have rv' := Rp.mono e3 rv
    cases rv' with
    | @lst a vs xs ha ra =>
    cases ru with
    | @lst b us ys hb rb =>
    have hl : vs.length = as.length := by rw [ra.length, List.length_map]
    have hl2 : us.length = bs.length := by rw [rb.length, List.length_map]
    have sq : ∀ {F2 H2 : Hp}, Ex F3 F2 → Ex F2 H2 → SqL K H2 a vs := fun e fh => .inl (.inl (fh _ _ (e _ _ ha)))
    have sq2 : ∀ {F2 H2 : Hp}, Ex F3 F2 → Ex F2 H2 → SqL K H2 b us := fun e fh => .inl (.inl (fh _ _ (e _ _ hb)))
    refine ⟨a, b, vs, us, rfl, .inl (.inl (E3.fh _ _ ha)), .inl (.inl (E3.fh _ _ hb)), loop_gen (f := zpD f f2) (as := as.zip bs) (fun _ => True) E3 (e1.trans e3) ok (fun i p F2 H2 σ2 ρ2 ea E2 e2 _ => ?_) (fun i F2 H2 σ2 ρ2 hi E2 e2 _ => ⟨vs, us, sq e2 E2.fh, sq2 e2 E2.fh, by rw [List.length_zip] at hi; omega⟩) (fun i p F2 H2 σ2 ρ2 y H' ea E2 e2 _ hy => ?_) I (fun _ _ _ => trivial) i0 is id⟩
    · rw [List.getElem?_zip_eq_some] at ea
      obtain ⟨w, hw, _⟩ := at_map' ra ea.1
      obtain ⟨w2, hw2, _⟩ := at_map' rb ea.2
      exact ⟨vs, us, w, w2, sq e2 E2.fh, sq2 e2 E2.fh, hw, hw2⟩
    · rw [List.getElem?_zip_eq_some] at ea
      obtain ⟨T, w, w2, rfl, hT, rfl, hw, hw2⟩ := hy
      exact pair_new E2 hT (Rp.mono e2 (at_map ra ea.1 (hw vs (sq e2 E2.fh)))) (Rp.mono e2 (at_map rb ea.2 (hw2 us (sq2 e2 E2.fh))))
end
/-! ### own things that are only looked at -/
section
variable {B : Bs} {K : Fr} {ρ : En} {ta tb te to : TE} {Q : R → En → Prop} {QD : PyData → En → Prop} {Z : Zs}
theorem wd_isiP (t : Ty) (h : WE B K to ρ fun r ρ1 => ∃ a, r = .raw (.ref a) ∧ (∃ (j : Nat) (t0 : OT) (π : List Nat) (ts : List OT), ρ1[j]? = some (some (.deep t0)) ∧ t0.at π = some (.lst a ts)) ∧ QD (.bool (isTy .list t)) ρ1) :
    WD B K (tCB (rIsi K) (tCons to (tCons (tC (.ty t.name)) tNil))) ρ QD := fun F H σ E QQ k =>
  h F H σ E _ fun v r F1 H1 ρ1 E1 e1 rv ⟨a, hr, ⟨j, t0, π, ts, hj, hat⟩, q⟩ => by
    subst hr
    cases (show v = .ref a from rv)
    obtain ⟨_, vs, hv, _⟩ := E1.list_at hj hat
    exact ⟨.ref a, .ty t.name, .type "list", .type t.name, isTy .list t, rfl, .ty _, .base (.lst hv), kit_ok .list t, k _ _ F1 H1 ρ1 E1 e1 (.bl _) q⟩
theorem wd_isiPl (h : WE B K to ρ fun r ρ1 => ∃ a, r = .raw (.ref a) ∧ (∃ (j : Nat) (t0 : OT) (π : List Nat) (ts : List OT), ρ1[j]? = some (some (.deep t0)) ∧ t0.at π = some (.lst a ts)) ∧ QD (.bool true) ρ1) :
    WD B K (tCB (rIsi K) (tCons to (tCons (tC (.ty "list")) tNil))) ρ QD := wd_isiP .list h
theorem wd_isiT {j : Nat} {a : Addr} {ts : List OT} (hj : ρ[j]? = some (some (.deep (.lst a ts)))) (q : QD (.bool true) ρ) :
    WD B K (tCB (rIsi K) (tCons (tVar j) (tCons (tC (.ty "list")) tNil))) ρ QD := wd_isiP .list (we_ptr hj ⟨a, rfl, ⟨j, _, [], ts, hj, rfl⟩, q⟩)
theorem wd_isiO {j : Nat} {xs : List PyData} (hj : ρ[j]? = some (some (.own xs))) (q : QD (.bool true) ρ) :
    WD B K (tCB (rIsi K) (tCons (tVar j) (tCons (tC (.ty "list")) tNil))) ρ QD := fun F H σ E QQ k => by
  obtain ⟨a, vs, e, _, k2, k3⟩ := E.own_at hj
  exact ⟨.ref a, e, .ref a, .ty "list", .type "list", .type "list", isTy .list .list, rfl, .ty _, .base (.lst k2), kit_ok .list .list, k _ _ F H ρ E (Ex.refl F) (.bl _) q⟩
theorem OtA.swap {F F' H H' : Hp} (e : Ex F F') : ∀ {ts : List OT} {vs ws : List V}, OtA K F H vs ts → OtA K F' H' ws ts → OtA K F' H' vs ts
  | [], _, _, .nil, .nil => .nil
  | .d _ :: _, _, _, .cons (.d h) r, .cons _ r2 => .cons (.d (Rp.mono e h)) (OtA.swap e r r2)
  | .lst _ _ :: _, _, _, .cons (.lst _ _ _) r, .cons (.lst a b c) r2 => .cons (.lst a b c) (OtA.swap e r r2)
  | .tup _ _ :: _, _, _, .cons (.tup _ _ _) r, .cons (.tup a b c) r2 => .cons (.tup a b c) (OtA.swap e r r2)
  | .dct _ _ _ :: _, _, _, .cons (.dct _ _ _ _) r, .cons (.dct a b l c) r2 => .cons (.dct a b l c) (OtA.swap e r r2)
theorem OtA.drop {F H : Hp} : ∀ {ts : List OT} {vs : List V} (n : Nat), OtA K F H vs ts → OtA K F H (vs.drop n) (ts.drop n)
  | _, _, 0, r => r
  | [], _, _ + 1, .nil => .nil
  | _ :: _, _, n + 1, .cons _ r => OtA.drop n r
theorem OtA.cut {F H : Hp} {vs : List V} {ts : List OT} (r : OtA K F H vs ts) (lo hi : Option Int) : OtA K F H (cutV vs lo hi) (cutD ts lo hi) := by
  unfold cutV cutD
  rw [r.length]
  exact (r.drop _).take _
theorem areD_sub {ts : List OT} (h : areD ts = true) : ∀ us : List OT, (∀ u, u ∈ us → u ∈ ts) → areD us = true := by
  have all : ∀ {ts : List OT}, areD ts = true → ∀ u, u ∈ ts → u.isD = true := by
    intro ts
    induction ts with
    | nil => intro _ u hu; cases hu
    | cons t ts ih =>
      intro h u hu
      have h' := Bool.and_eq_true_iff.mp (show (t.isD && areD ts) = true from h)
      rcases List.mem_cons.mp hu with rfl | hu
      · exact h'.1
      · exact ih h'.2 u hu
  intro us
  induction us with
  | nil => intro _; rfl
  | cons u us ih =>
    intro hs
    show (u.isD && areD us) = true
    rw [all h u (hs u List.mem_cons_self), ih fun v hv => hs v (List.mem_cons_of_mem _ hv)]
    rfl
theorem cutD_in {α : Type} {ts : List α} {lo hi : Option Int} {u : α} (h : u ∈ cutD ts lo hi) : u ∈ ts := List.mem_of_mem_drop (List.mem_of_mem_take h)
theorem datas_cut (ts : List OT) (lo hi : Option Int) : datas (cutD ts lo hi) = cutD (datas ts) lo hi := by
  rw [datas_eq, datas_eq, cutD_map]
theorem wd_sl2T {op : R2} (g : Bool → Bool) {j : Nat} {a : Addr} {ts0 : List OT} {t1 t2 : TO} (hop : ∀ v w x y H (QQ : VK), Dp K H v x → Dp K H w y → SeqAt.shaped x = true → SeqAt.shaped y = true → QQ (.bl (g (PyData.eqv x y))) H → op v w H QQ) (hj : ρ[j]? = some (some (.deep (.lst a ts0))))
    (h : WO B K t1 ρ fun lo ρ1 => WO B K t2 ρ1 fun hi ρ2 => ∃ ts, ρ2[j]? = some (some (.deep (.lst a ts))) ∧ areD ts = true ∧ WD B K tb ρ2 fun y ρ3 => ρ3[j]? = some (some (.deep (.lst a ts))) ∧ (noD (.list (cutD (datas ts) lo hi)) = true ∧ noD y = true ∧ SeqAt.shaped (.list (cutD (datas ts) lo hi)) = true ∧ SeqAt.shaped y = true) ∧ QD (.bool (g (PyData.eqv (.list (cutD (datas ts) lo hi)) y))) ρ3) :
    WD B K (tOp op (tSl (rSlAny K) (tVar j) t1 t2) tb) ρ QD := fun F H σ E QQ k => by
  obtain ⟨v, e, s, nd⟩ := E.sl j _ hj
  have ev : v = .ref a := by cases s; rfl
  subst ev
  refine ⟨.ref a, e, h F H σ E _ fun lo F1 H1 ρ1 E1 e1 q1 => q1 F1 H1 σ E1 _ fun hi F2 H2 ρ2 E2 e2 ⟨ts, hj2, hd, q2⟩ => ?_⟩
  obtain ⟨fa, vs, hv, os⟩ := E2.list_at hj2 (π := []) rfl
  refine .inl ⟨a, vs, rfl, .inl (.inl hv), fun p hp => ?_⟩
  obtain ⟨E3, e3⟩ := E2.alloc (o := .lst (cutV vs lo hi)) hp
  have ne : ∀ b, b ∈ fps ts → upd F2 p (.lst (cutV vs lo hi)) b = none ∧ upd H2 p (.lst (cutV vs lo hi)) b = H2 b := fun b hb => by
    obtain ⟨k1, o, k2⟩ := os.live hb
    have : b ≠ p := fun z => by rw [z, hp] at k2; cases k2
    rw [upd_ne this, upd_ne this]
    exact ⟨k1, rfl⟩
  have os3 := os.mono e3 ne
  refine q2 _ _ σ E3 _ fun w y F4 H4 ρ4 E4 e4 ry ⟨hj4, ⟨n1, n2, s1, s2⟩, q4⟩ => ?_
  obtain ⟨_, vs4, hv4, os4⟩ := E4.list_at hj4 (π := []) rfl
  have os5 := (OtA.swap e4 os3 os4).cut lo hi
  have hd5 : areD (cutD ts lo hi) = true := areD_sub hd _ fun u hu => cutD_in hu
  have rp : Rp K H4 (.ref p) (.list (cutD (datas ts) lo hi)) := by
    rw [← datas_cut]
    exact .lst (E4.fh _ _ (e4 _ _ upd_same)) (os5.rp E4.fh hd5 fun _ _ => rfl)
  exact hop _ _ _ _ H4 _ (rp.dp (Ex.refl H4) n1) (Rp.dp E4.fh ry n2) s1 s2 (k _ _ F4 H4 ρ4 E4 (((e1.trans e2).trans e3).trans e4) (.bl _) q4)
theorem wd_eqSlT {j : Nat} {a : Addr} {ts0 : List OT} {t1 t2 : TO} (hj : ρ[j]? = some (some (.deep (.lst a ts0))))
    (h : WO B K t1 ρ fun lo ρ1 => WO B K t2 ρ1 fun hi ρ2 => ∃ ts, ρ2[j]? = some (some (.deep (.lst a ts))) ∧ areD ts = true ∧ WD B K tb ρ2 fun y ρ3 => ρ3[j]? = some (some (.deep (.lst a ts))) ∧ (noD (.list (cutD (datas ts) lo hi)) = true ∧ noD y = true ∧ SeqAt.shaped (.list (cutD (datas ts) lo hi)) = true ∧ SeqAt.shaped y = true) ∧ QD (.bool (PyData.eqv (.list (cutD (datas ts) lo hi)) y)) ρ3) :
    WD B K (tOp (rEqD K) (tSl (rSlAny K) (tVar j) t1 t2) tb) ρ QD := wd_sl2T (fun b => b) (fun v w x y H QQ d1 d2 s1 s2 q => ⟨x, y, d1, d2, s1, s2, q⟩) hj h
theorem wd_neSlT {j : Nat} {a : Addr} {ts0 : List OT} {t1 t2 : TO} (hj : ρ[j]? = some (some (.deep (.lst a ts0))))
    (h : WO B K t1 ρ fun lo ρ1 => WO B K t2 ρ1 fun hi ρ2 => ∃ ts, ρ2[j]? = some (some (.deep (.lst a ts))) ∧ areD ts = true ∧ WD B K tb ρ2 fun y ρ3 => ρ3[j]? = some (some (.deep (.lst a ts))) ∧ (noD (.list (cutD (datas ts) lo hi)) = true ∧ noD y = true ∧ SeqAt.shaped (.list (cutD (datas ts) lo hi)) = true ∧ SeqAt.shaped y = true) ∧ QD (.bool (!PyData.eqv (.list (cutD (datas ts) lo hi)) y)) ρ3) :
    WD B K (tOp (rNeD K) (tSl (rSlAny K) (tVar j) t1 t2) tb) ρ QD := wd_sl2T (fun b => !b) (fun v w x y H QQ d1 d2 s1 s2 q => ⟨x, y, d1, d2, s1, s2, q⟩) hj h
/-- over an own list of own things: the name holds where each stands -/
theorem ws_forP {i j : Nat} {a : Addr} {ts : List OT} {tS : TS} (hp : NP B i) (hj : ρ[j]? = some (some (.deep (.lst a ts)))) (I : List OT → En → Prop) (ic : ∀ pre ρ', I pre ρ' → ρ'[j]? = some (some (.deep (.lst a ts)))) (i0 : I [] ρ)
    (is : ∀ pre u post ρ2 l, ts = pre ++ u :: post → I pre ρ2 → u.r.toL = some l → WS B K tS (ρ2.set i (some l)) (Z.lp (I (pre ++ [u])))) (id : ∀ ρ2, I ts ρ2 → Z.nx ρ2) : WS B K (tFor (iList K (tVar j)) (gName i) tS) ρ Z := fun F H σ E D ok => by
  obtain ⟨v, e, s, nd⟩ := E.sl j _ hj
  have ev : v = .ref a := by cases s; rfl
  subst ev
  obtain ⟨_, vs, hv, os⟩ := E.list_at hj (π := []) rfl
  have sq : ∀ {F H σ ρ'}, EnvOk B K F H σ ρ' → ρ'[j]? = some (some (.deep (.lst a ts))) → ∃ vs, H a = some (.lst vs) ∧ OtA K F H vs ts := fun E h => (E.list_at h (π := []) rfl).2
  refine ⟨.ref a, e, a, rfl, ⟨vs, .inl (.inl hv)⟩, ?_⟩
  refine ⟨fun n m σ H => m = ts.length - n ∧ n ≤ ts.length ∧ ∃ F' ρ', EnvOk B K F' H σ ρ' ∧ Ex F F' ∧ I (ts.take n) ρ', ⟨ts.length, (Nat.sub_zero _).symm, Nat.zero_le _, F, ρ, E, Ex.refl F, i0⟩, ?_⟩
  rintro n m σ2 H2 ⟨rfl, hn, F2, ρ2, E2, e2, q⟩
  obtain ⟨ws, hw, osw⟩ := sq E2 (ic _ _ q)
  by_cases hlt : n < ts.length
  · have ea : ts[n]? = some ts[n] := List.getElem?_eq_getElem hlt
    obtain ⟨w, hw2, ow⟩ := osw.get' ea
    refine .inr ⟨⟨ws, w, .inl (.inl hw), hw2⟩, fun σ' H' => ∃ F' ρ', EnvOk B K F' H' σ' ρ' ∧ Ex F F' ∧ I (ts.take (n + 1)) ρ', fun σ' H' p' => ⟨ts.length - (n + 1), by omega, rfl, hlt, p'⟩, fun x H' y => ?_⟩
    obtain ⟨rfl, hy⟩ := y
    have hx := hy ws (.inl (.inl hw))
    rw [hw2] at hx
    cases hx
    have key : ∃ l, (ts[n]).r.toL = some l ∧ SlotOk K F2 H' w l ∧ l.pl = true := by
      generalize ts[n] = u at ow
      cases ow with
      | d h => exact ⟨_, rfl, h, rfl⟩
      | lst _ _ _ => exact ⟨_, rfl, rfl, rfl⟩
      | tup _ _ _ => exact ⟨_, rfl, rfl, rfl⟩
      | dct _ _ _ _ => exact ⟨_, rfl, rfl, rfl⟩
    obtain ⟨l, hl, sl, pl⟩ := key
    have E3 := E2.setD (i := i) sl pl hp
    have fin := is (ts.take n) ts[n] (ts.drop (n + 1)) ρ2 l (split_at ea) q hl F2 H' _ E3
    exact fin { D with nx := fun σ' H' => ∃ F' ρ', EnvOk B K F' H' σ' ρ' ∧ Ex F F' ∧ I (ts.take (n + 1)) ρ', ct := fun σ' H' => ∃ F' ρ', EnvOk B K F' H' σ' ρ' ∧ Ex F F' ∧ I (ts.take (n + 1)) ρ', bk := D.nx }
      ⟨fun F4 H4 σ4 ρ4 E4 e4 q4 => ⟨F4, ρ4, E4, e2.trans e4, by rw [take_snoc ea]; exact q4⟩, fun F4 H4 σ4 ρ4 v4 r4 E4 e4 rv4 q4 => ok.rt F4 H4 σ4 ρ4 v4 r4 E4 (e2.trans e4) rv4 q4,
       fun F4 H4 σ4 ρ4 E4 e4 q4 => ok.nx F4 H4 σ4 ρ4 E4 (e2.trans e4) q4, fun F4 H4 σ4 ρ4 E4 e4 q4 => ⟨F4, ρ4, E4, e2.trans e4, by rw [take_snoc ea]; exact q4⟩⟩
  · have en : n = ts.length := by omega
    subst en
    exact .inl ⟨⟨ws, .inl (.inl hw), by rw [osw.length]; exact Nat.le_refl _⟩, ok.nx F2 H2 σ2 ρ2 E2 e2 (id ρ2 (by rw [List.take_length] at q; exact q))⟩
end
end SV

set_option maxHeartbeats 4000000
set_option hygiene false
local macro_rules | `(tactic| walk_at "okd") => `(tactic| with_reducible first | exact SV.OkD.int _ | exact SV.OkD.bool _ | exact SV.OkD.none | exact SV.OkD.nil | assumption | exact SV.OkD.ints _ | exact SV.OkD.strs (by assumption))
local macro_rules | `(tactic| walk_at "nob") => `(tactic| first | with_reducible assumption | with_reducible exact SV.noB_strs _ | with_reducible exact SV.noB_ints _ | rfl)
local macro_rules | `(tactic| walk_at "sn1") => `(tactic| first
  | ((with_reducible refine' SV.ws_retO ?h ?h2 ?_); (case h => exact rfl); (case h2 => exact SV.np_of (by assumption) (by decide)))
  | ((with_reducible refine' SV.ws_retT ?h ?h2 ?_); (case h => exact rfl); (case h2 => exact SV.np_of (by assumption) (by decide)))
  | ((with_reducible refine' SV.ws_retD ?h ?h2 ?_); (case h => exact rfl); (case h2 => exact SV.np_of (by assumption) (by decide)))
  | (with_reducible refine SV.ws_seq ?_)
  | (with_reducible refine SV.ws_for1 ?_)
  | (with_reducible refine SV.ws_for2 ?_)
  | (with_reducible refine SV.ws_ret ?_)
  | (with_reducible refine SV.ws_retN ?_)
  | (with_reducible refine SV.ws_drop ?_)
  | (with_reducible refine SV.ws_next ?_)
  | (with_reducible refine SV.ws_cont ?_)
  | (with_reducible refine SV.ws_brk ?_)
  | ((with_reducible refine' SV.ws_asgO ?h ?_); (case h => exact SV.np_of (by assumption) (by decide)))
  | ((with_reducible refine' SV.ws_asg ?h ?_); (case h => exact SV.np_of (by assumption) (by decide)))
  | ((with_reducible refine' SV.ws_aug ?h ?h2 ?_); (case h => exact SV.np_of (by assumption) (by decide)); (case h2 => exact rfl))
  | (with_reducible refine SV.ws_setItem ?_)
  | (with_reducible refine SV.ws_asgG ?_)
  | ((with_reducible refine' SV.wg_name ?h ?_); (case h => exact SV.np_of (by assumption) (by decide)))
  | ((with_reducible refine' SV.wg_tup ?h ?_); (case h => exact rfl))
  | (with_reducible refine SV.ws_asgGX ?_)
  | ((with_reducible refine' SV.wgt_d ?h ?_); (case h => exact SV.np_of (by assumption) (by decide)))
  | ((with_reducible refine' SV.wgt_o ?h ?_); (case h => exact SV.np_of (by assumption) (by decide)))
  | (with_reducible refine SV.wgt_nil ?_)
  | (with_reducible refine ⟨_, _, rfl, rfl, (?_ : SV.WGT _ _ _ _ _ _)⟩)
  | (with_reducible refine SV.wgs_cons ?_)
  | (with_reducible refine SV.wgs_nil ?_)
  | (with_reducible refine SV.wt_test ?_)
  | (with_reducible refine SV.wt_B ?_)
  | (with_reducible refine SV.wt_and ?_)
  | (with_reducible refine SV.wt_or ?_)
  | (with_reducible refine SV.wt_not ?_)
  | (with_reducible refine SV.wt_yes ?_)
  | ((with_reducible refine' SV.wd_var ?h ?_); (case h => exact rfl))
  | ((with_reducible refine' SV.wd_frz ?h ?h2 ?_); (case h => exact rfl); (case h2 => exact SV.np_of (by assumption) (by decide)))
  | (with_reducible refine SV.wd_int ?_)
  | (with_reducible refine SV.wd_bl ?_)
  | (with_reducible refine SV.wd_str ?_)
  | (with_reducible refine SV.wd_non ?_)
  | ((with_reducible refine' SV.wd_frzT ?h ?h2 ?h3 ?_); (case h => exact rfl); (case h2 => exact SV.np_of (by assumption) (by decide)); (case h3 => exact rfl))
  | ((with_reducible refine' SV.wd_ixS ?h ?_); (case h => exact rfl))
  | ((with_reducible refine' SV.wd_ixO ?h ?_); (case h => exact rfl))
  | ((with_reducible refine' SV.wd_ixT ?h ?_); (case h => exact rfl))
  | (with_reducible refine SV.wd_ix ?_)
  | ((with_reducible refine' SV.wd_lenS ?h ?_); (case h => exact rfl))
  | ((with_reducible refine' SV.wd_lenO ?h ?_); (case h => exact rfl))
  | ((with_reducible refine' SV.wd_lenT ?h ?_); (case h => exact rfl))
  | (with_reducible refine SV.wd_len ?_)
  | (with_reducible refine SV.wd_int1 ?_)
  | (with_reducible refine SV.wd_e (SV.we_plus ?_))
  | (with_reducible refine SV.wd_chain ?_)
  | (with_reducible refine SV.wd_sub ?_)
  | (with_reducible refine SV.wd_modP ?_)
  | (with_reducible refine SV.wd_divP ?_)
  | (with_reducible refine SV.wd_pow ?_)
  | (with_reducible refine SV.wd_mulP ?_)
  | (with_reducible refine SV.wd_srep ?_)
  | (with_reducible refine SV.wd_dnew ?_)
  | (with_reducible refine SV.wd_neg ?_)
  | (with_reducible refine SV.wd_lt ?_)
  | ((with_reducible refine' SV.wd_eqO ?h ?_); (case h => exact rfl))
  | ((with_reducible refine' SV.wd_neO ?h ?_); (case h => exact rfl))
  | ((with_reducible refine' SV.wd_eqT ?h ?_); (case h => exact rfl))
  | ((with_reducible refine' SV.wd_neT ?h ?_); (case h => exact rfl))
  | ((with_reducible refine' SV.wd_neSlT ?h ?_); (case h => exact rfl))
  | ((with_reducible refine' SV.wd_eqSlT ?h ?_); (case h => exact rfl))
  | (with_reducible refine SV.wd_eqD ?_)
  | (with_reducible refine SV.wd_neD ?_)
  | (with_reducible refine SV.wd_isN ?_)
  | (with_reducible refine SV.wd_notN ?_)
  | (with_reducible refine SV.wd_tup ?_)
  | (with_reducible refine SV.wd_max2 ?_)
  | (with_reducible refine SV.wd_min2 ?_)
  | (with_reducible refine SV.wd_andV ?_)
  | (with_reducible refine SV.wd_orV ?_)
  | (with_reducible refine SV.wd_notV ?_)
  | (with_reducible refine SV.wd_niSign ?_)
  | (with_reducible refine SV.wd_inSign ?_)
  | ((with_reducible refine' SV.wd_isiT ?h ?_); (case h => exact rfl))
  | ((with_reducible refine' SV.wd_isiO ?h ?_); (case h => exact rfl))
  | (with_reducible refine SV.wd_isi_int ?_)
  | (with_reducible refine SV.wd_isi_bool ?_)
  | (with_reducible refine SV.wd_isi_str ?_)
  | (with_reducible refine SV.wd_isi_tuple ?_)
  | (with_reducible refine SV.wd_isi_list ?_)
  | (with_reducible refine SV.wd_isi_dict ?_)
  | ((with_reducible refine' SV.wd_isx ?h ?C ?k ?e ?_); (case h => exact rfl); (case C => assumption); (case k => (first | exact .ty _ | exact .own _)); (case e => assumption))
  | ((with_reducible refine' SV.wd_isxT ?h ?t ?l ?C ?e ?_); (case h => exact rfl); (case t => (first | exact (.cons (.cons (.cons (.cons (.cons (.cons (.cons (.cons .nil)))))))) | exact (.cons (.cons (.cons (.cons (.cons (.cons (.cons .nil))))))) | exact (.cons (.cons (.cons (.cons .nil)))))); (case l => exact Nat.le_of_ble_eq_true rfl); (case C => assumption); (case e => assumption))
  | (with_reducible refine SV.wd_e (SV.we_lst ?_))
  | ((with_reducible refine' SV.wd_e (SV.we_slS ?h ?_)); (case h => exact rfl))
  | ((with_reducible refine' SV.wd_e (SV.we_sl3S ?h ?_)); (case h => exact rfl))
  | ((with_reducible refine' SV.wd_e (SV.we_slO ?h ?_)); (case h => exact rfl))
  | (with_reducible refine SV.wan_last ?_)
  | (with_reducible refine SV.wan_cons ?_)
  | (with_reducible refine SV.wd_e (SV.we_split ?_))
  | (with_reducible refine SV.wd_e (SV.we_sortTI ?_))
  | (with_reducible refine SV.wd_e (SV.we_sortI ?_))
  | (with_reducible refine SV.wd_e (SV.we_sl ?_))
  | (with_reducible refine SV.wd_e (SV.we_rep ?_))
  | (with_reducible refine SV.wd_e (SV.we_callPN ?_))
  | (with_reducible refine SV.wd_e (SV.we_callF ?_))
  | (with_reducible refine SV.wd_e (SV.we_callP ?_))
  | (with_reducible refine SV.wd_e (SV.we_callFS ?_))
  | (with_reducible refine SV.wd_e (SV.we_callR ?_))
  | (with_reducible refine SV.wd_e (SV.we_callRS ?_))
  | (with_reducible refine SV.wd_e (SV.we_if ?_))
  | (with_reducible refine SV.wd_e (SV.we_list ?_))
  | ((with_reducible refine' SV.wd_e (SV.we_listO ?h ?_)); (case h => exact rfl))
  | ((with_reducible refine' SV.wd_tupOfO ?h ?_); (case h => exact rfl))
  | (with_reducible refine SV.wd_tupOf ?_)
  | (with_reducible refine SV.wd_join ?_)
  | ((with_reducible refine' SV.we_appendV ?h ?h1 ?_); (case h => exact rfl); (case h1 => exact SV.np_of (by assumption) (by decide)))
  | ((with_reducible refine' SV.wk_take ?h ?h1 ?_); (case h => exact rfl); (case h1 => exact SV.np_of (by assumption) (by decide)))
  | ((with_reducible refine' SV.wk_takeT ?h ?h1 ?_); (case h => exact rfl); (case h1 => exact SV.np_of (by assumption) (by decide)))
  | (with_reducible refine SV.wk_d ?_)
  | (with_reducible refine SV.we_tupX ?_)
  | (with_reducible refine SV.we_lstX ?_)
  | (with_reducible refine SV.wx_nil ?_)
  | ((with_reducible refine' SV.wx_var ?h ?_); (case h => exact rfl))
  | (with_reducible refine SV.wx_str ?_)
  | (with_reducible refine SV.wx_int ?_)
  | ((with_reducible refine' SV.wx_take ?h ?h1 ?h2 ?_); (case h => assumption); (case h1 => exact rfl); (case h2 => exact SV.np_of (by assumption) (by decide)); intro a B' hB')
  | ((with_reducible refine' SV.wx_takeT ?h ?h1 ?h2 ?_); (case h => assumption); (case h1 => exact rfl); (case h2 => exact SV.np_of (by assumption) (by decide)); intro B' hB')
  | (with_reducible refine SV.wds_cons ?_)
  | (with_reducible refine SV.wds_nil ?_)
  | ((with_reducible refine' SV.we_scr ?h ?_); (case h => exact rfl))
  | (with_reducible refine SV.we_lst ?_)
  | ((with_reducible refine' SV.we_slS ?h ?_); (case h => exact rfl))
  | ((with_reducible refine' SV.we_sl3S ?h ?_); (case h => exact rfl))
  | ((with_reducible refine' SV.we_slO ?h ?_); (case h => exact rfl))
  | (with_reducible refine SV.we_sl ?_)
  | (with_reducible refine SV.wo_none ?_)
  | (with_reducible refine SV.wo_some ?_)
  | ((with_reducible refine' SV.we_append ?h ?_); (case h => exact rfl))
  | ((with_reducible refine' SV.we_extend ?h ?_); (case h => exact rfl))
  | ((with_reducible refine' SV.we_listO ?h ?_); (case h => exact rfl))
  | (with_reducible refine SV.we_list ?_)
  | (with_reducible refine SV.we_split ?_)
  | (with_reducible refine SV.we_sortTI ?_)
  | (with_reducible refine SV.we_sortI ?_)
  | (with_reducible refine SV.we_plus ?_)
  | (with_reducible refine SV.we_rep ?_)
  | (with_reducible refine SV.we_callPN ?_)
  | (with_reducible refine SV.we_callF ?_)
  | (with_reducible refine SV.we_callP ?_)
  | (with_reducible refine SV.we_callFS ?_)
  | (with_reducible refine SV.we_callR ?_)
  | (with_reducible refine SV.we_callRS ?_)
  | (with_reducible refine SV.we_if ?_)
  | (with_reducible refine SV.wa_nil ?_)
  | (with_reducible refine SV.waf_nil ?_)
  | ((with_reducible refine' SV.waf_scr ?h ?_); (case h => exact rfl))
  | ((with_reducible refine' SV.waf_raw ?h ?_); (case h => exact rfl))
  | (with_reducible refine SV.waf_d ?_)
  | ((with_reducible refine' SV.wa_own ?h ?_); (case h => exact rfl))
  | ((with_reducible refine' SV.wa_ownT ?h ?_); (case h => exact rfl))
  | ((with_reducible refine' SV.wa_ownD ?h ?_); (case h => exact rfl))
  | ((with_reducible refine' SV.wa_e (SV.we_scr ?h ?_)); (case h => exact rfl))
  | (with_reducible refine SV.wa_d ?_)
  | (with_reducible refine SV.len_map ?_)
  | (with_reducible refine SV.len_mapT ?_)
  | (with_reducible refine SV.len_list ?_)
  | (with_reducible refine SV.len_tup ?_)
  | (with_reducible refine SV.lof_list ?_)
  | (with_reducible refine SV.lof_tup ?_)
  | (with_reducible refine SV.slc_list ?_)
  | (with_reducible refine SV.slc_tup ?_)
  | (refine SV.plus_int ?_)
  | (refine SV.plus_str ?_ ?_)
  | (refine SV.plus_list ?_ ?_)
  | (with_reducible refine SV.fk_dec (fun hc => ?_) (fun hc => ?_))
  | (with_reducible refine SV.fk_not ?_)
  | (with_reducible refine SV.fk_int (fun hc => ?_) (fun hc => ?_))
  | (with_reducible refine SV.fk_nil (fun hc => ?_) (fun hc => ?_))
  | (with_reducible refine SV.fk_str (fun hc => ?_) (fun hc => ?_))
  | (with_reducible refine SV.fk_eqv (by walk_at "nob") (by walk_at "nob") (fun hc => ?_) (fun hc => ?_))
  | (refine SV.fk_t ?_)
  | (refine SV.fk_f ?_)
  | (with_reducible refine SV.we_d ?_)
  | (refine SV.idx_list rfl ?_)
  | (refine SV.idx_tup rfl ?_)
  | (refine And.intro (show SV.atomD _ = true from rfl) ?_)
  | (refine ⟨fun (_ : Addr) => False, rfl, ?_, fun C (h : False) => (h.elim : SV.EK _ _ L2.E0 C)⟩)
  | ((with_reducible refine' ⟨_, ?h, ?_⟩); (case h => exact rfl))
  | (refine ⟨⟨_, rfl⟩, ?_⟩)
  | (refine ⟨_, _, _, rfl, rfl, rfl, ?_⟩)
  | (refine And.intro ?hs ?_; (case hs => (first | omega | (simp only [List.length_cons, List.length_nil, List.length_append, List.length_map, SV.lim]; omega) | exact Or.inl ⟨by omega, by omega⟩ | exact Or.inr ⟨by omega, by omega⟩ | exact SV.ok2 (by walk_at "okd") (by walk_at "okd") | exact SV.ok2O (by walk_at "okd") (by walk_at "okd"))))
  | (refine ⟨_, fun _ => False, rfl, ?_, fun C (h : False) => (h.elim : SV.EK _ _ L2.E0 C)⟩)
  | (refine ⟨[], _, _, _, _, _, fun _ => False, rfl, rfl, rfl, rfl, rfl, ?_, fun C (h : False) => (h.elim : SV.EK _ _ L2.E0 C)⟩)
  | (refine ⟨[_], [], _, _, _, _, fun _ => False, rfl, rfl, rfl, rfl, rfl, ?_, fun C (h : False) => (h.elim : SV.EK _ _ L2.E0 C)⟩)
  | fail)
local macro_rules | `(tactic| walk_at "sn") => `(tactic| repeat' (walk_at "sn1"))
local macro_rules | `(tactic| walk_at "sv1") => `(tactic| first | (with_reducible refine SV.ws_if ?_) | walk_at "sn1")
local macro_rules | `(tactic| walk_at "sv") => `(tactic| repeat' (walk_at "sv1"))
set_option hygiene true

namespace SV
open PySem PySem.Spec L2
open Evl (Ex)
def topS (i : Nat) : Stmt := PySem.Challenge.pw_pagepart_k67_words_read.main.body.getD i (.Pass ⟨0, 0, 0, 0⟩)
abbrev s_words_in : Stmt := topS 12
abbrev N_words_in : List Str := ["rows", "boxes", "found", "left", "top", "right", "below", "row", "words", "word"]
theorem sc_words_in : FnScope N_words_in ["rows", "boxes"] (defScope s_words_in) := ⟨rfl, rfl, rfl, by decide +kernel, rfl, by decide +kernel, by decide +kernel⟩
abbrev s_law_stir : Stmt := topS 14
abbrev N_law_stir : List Str := ["cell", "k", "number"]
theorem sc_law_stir : FnScope N_law_stir ["cell", "k"] (defScope s_law_stir) := ⟨rfl, rfl, rfl, by decide +kernel, rfl, by decide +kernel, by decide +kernel⟩
abbrev s_law_cell : Stmt := topS 15
abbrev N_law_cell : List Str := ["script", "k"]
theorem sc_law_cell : FnScope N_law_cell ["script", "k"] (defScope s_law_cell) := ⟨rfl, rfl, rfl, by decide +kernel, rfl, by decide +kernel, by decide +kernel⟩
abbrev s_law_word : Stmt := topS 16
abbrev N_law_word : List Str := ["cell", "some", "word", "left", "k"]
theorem sc_law_word : FnScope N_law_word ["cell"] (defScope s_law_word) := ⟨rfl, rfl, rfl, by decide +kernel, rfl, by decide +kernel, by decide +kernel⟩
abbrev s_law_rows : Stmt := topS 17
abbrev N_law_rows : List Str := ["script", "wide", "high", "text", "k", "cell", "y"]
theorem sc_law_rows : FnScope N_law_rows ["script", "wide", "high"] (defScope s_law_rows) := ⟨rfl, rfl, rfl, by decide +kernel, rfl, by decide +kernel, by decide +kernel⟩
abbrev s_law_box : Stmt := topS 18
abbrev N_law_box : List Str := ["cell", "wide", "high", "left", "top"]
theorem sc_law_box : FnScope N_law_box ["cell", "wide", "high"] (defScope s_law_box) := ⟨rfl, rfl, rfl, by decide +kernel, rfl, by decide +kernel, by decide +kernel⟩
abbrev s_law_words : Stmt := topS 19
abbrev N_law_words : List Str := ["rows", "box", "found", "y", "word", "x"]
theorem sc_law_words : FnScope N_law_words ["rows", "box"] (defScope s_law_words) := ⟨rfl, rfl, rfl, by decide +kernel, rfl, by decide +kernel, by decide +kernel⟩
abbrev s_law_refused : Stmt := topS 20
abbrev N_law_refused : List Str := ["rows", "boxes", "kinds", "e"]
theorem sc_law_refused : FnScope N_law_refused ["rows", "boxes"] (defScope s_law_refused) := ⟨rfl, rfl, rfl, by decide +kernel, rfl, by decide +kernel, by decide +kernel⟩
abbrev s_law : Stmt := topS 21
abbrev N_law : List Str := ["script", "wide", "high", "rows", "boxes", "k", "due", "box", "handed", "found", "words", "far", "left", "top", "right", "below", "beyond", "at"]
theorem sc_law : FnScope N_law ["script"] (defScope s_law) := ⟨rfl, rfl, rfl, by decide +kernel, rfl, by decide +kernel, by decide +kernel⟩
structure Txt (K : Fr) (mg : Str → Option Value) where
  b_ValueError : mg "ValueError" = none
  b_isinstance : mg "isinstance" = none
  b_len : mg "len" = none
  b_list : mg "list" = none
  b_min : mg "min" = none
  b_range : mg "range" = none
  a_PartError : Addr
  PartError : ExcT K mg "PartError" a_PartError
  a_NoPage : Addr
  NoPage : ExcT K mg "NoPage" a_NoPage
  a_NoPicture : Addr
  NoPicture : ExcT K mg "NoPicture" a_NoPicture
  a_NoPlace : Addr
  NoPlace : ExcT K mg "NoPlace" a_NoPlace
  a_NoTree : Addr
  NoTree : ExcT K mg "NoTree" a_NoTree
  a_NoNeeds : Addr
  NoNeeds : ExcT K mg "NoNeeds" a_NoNeeds
  a_NoTexts : Addr
  NoTexts : ExcT K mg "NoTexts" a_NoTexts
  a_NoRoom : Addr
  NoRoom : ExcT K mg "NoRoom" a_NoRoom
  a_NoRow : Addr
  NoRow : ExcT K mg "NoRow" a_NoRow
  a_NoNumber : Addr
  NoNumber : ExcT K mg "NoNumber" a_NoNumber
  f_words_in : Addr
  fd_words_in : FuncData
  d_words_in : Df K mg "words_in" s_words_in ["rows", "boxes"] f_words_in fd_words_in
  f_law_stir : Addr
  fd_law_stir : FuncData
  d_law_stir : Df K mg "_law_stir" s_law_stir ["cell", "k"] f_law_stir fd_law_stir
  f_law_cell : Addr
  fd_law_cell : FuncData
  d_law_cell : Df K mg "_law_cell" s_law_cell ["script", "k"] f_law_cell fd_law_cell
  f_law_word : Addr
  fd_law_word : FuncData
  d_law_word : Df K mg "_law_word" s_law_word ["cell"] f_law_word fd_law_word
  f_law_rows : Addr
  fd_law_rows : FuncData
  d_law_rows : Df K mg "_law_rows" s_law_rows ["script", "wide", "high"] f_law_rows fd_law_rows
  f_law_box : Addr
  fd_law_box : FuncData
  d_law_box : Df K mg "_law_box" s_law_box ["cell", "wide", "high"] f_law_box fd_law_box
  f_law_words : Addr
  fd_law_words : FuncData
  d_law_words : Df K mg "_law_words" s_law_words ["rows", "box"] f_law_words fd_law_words
  f_law_refused : Addr
  fd_law_refused : FuncData
  d_law_refused : Df K mg "_law_refused" s_law_refused ["rows", "boxes"] f_law_refused fd_law_refused
  f_law : Addr
  fd_law : FuncData
  d_law : Df K mg "law" s_law ["script"] f_law fd_law
  e_NoPlace : ExcC K a_NoPlace
  m_NoPlace_PartError : PySem.W.exmOne K (.ref a_NoPlace) (.ref a_PartError) = some true
  i_NoPlace_NoPlace : PySem.W.kitOne K (.ref a_NoPlace) (.ref a_NoPlace) = some true
  i_NoPlace_ValueError : PySem.W.kitOne K (.ref a_NoPlace) (.type "ValueError") = some true
  j_NoPlace_0 : PySem.W.kitAny K (.ref a_NoPlace) [.ref a_NoPicture, .ref a_NoPage, .ref a_NoTree, .ref a_NoNeeds] = some false
  j_NoPlace_1 : PySem.W.kitAny K (.ref a_NoPlace) [.ref a_NoTexts, .ref a_NoRoom, .ref a_NoRow, .ref a_NoNumber] = some false
section
variable {P : Program} {w : World} {K : Fr} {mg : Str → Option Value} {base : Heap}


/-! ### words of 1 to 12 signs -/
def someS : Str := "!\"#$&'()*+,-./0123456789:;<=>?@ABCDEFGHIJKLMNOPQRSTUVWXYZ[\\]^_`abcdefghijklmnopqrstuvwxyz{|}~"
/-- a word: 1 to 12 signs of these -/
def IsWord (w : Str) : Prop := 1 ≤ w.length ∧ w.length ≤ 12 ∧ ∀ c, c ∈ w.cps.toList → c ∈ someS.cps.toList
theorem someS_len : someS.cps.toList.length = 93 := by decide +kernel
theorem atI_lt {α : Type} {xs : List α} {i : Int} (h0 : 0 ≤ i) (h : i < xs.length) : ∃ x, atI xs i = some x ∧ x ∈ xs := by
  have e : ixN xs.length i = some i.toNat := by
    unfold ixN
    rw [if_pos h0, if_pos h]
  have hl : i.toNat < xs.length := by omega
  exact ⟨xs[i.toNat], by unfold atI; rw [e]; exact List.getElem?_eq_getElem hl, List.getElem_mem hl⟩
theorem app_len (a b : Str) : (a ++ b).length = a.length + b.length := Array.size_append
theorem app_list (a b : Str) : (a ++ b).cps.toList = a.cps.toList ++ b.cps.toList := Array.toList_append
theorem strOk_app {a b : Str} (ha : PyData.strOk a = true) (hb : PyData.strOk b = true) : PyData.strOk (a ++ b) = true := by
  unfold PyData.strOk at *
  rw [← Array.all_toList] at *
  rw [app_list, List.all_append, ha, hb]
  rfl
theorem strOk_word {x : Str} (h : IsWord x) : PyData.strOk x = true := by
  unfold PyData.strOk
  rw [← Array.all_toList, List.all_eq_true]
  intro c hc
  have h2 : someS.cps.toList.all (fun c => decide (c < 1114112)) = true := by decide +kernel
  exact List.all_eq_true.mp h2 c (h.2.2 c hc)
def spS : Str := (" " : String)
theorem spS_len : spS.length = 1 := by decide +kernel
theorem strOk_sp : PyData.strOk spS = true := by decide +kernel
theorem snoc_cases {α : Type} (l : List α) : l = [] ∨ ∃ g x, l = g ++ [x] := by
  rcases List.eq_nil_or_concat l with h | ⟨g, x, h⟩
  · exact .inl h
  · exact .inr ⟨g, x, by rw [h, List.concat_eq_append]⟩
theorem snoc_ind {α : Type} {P : List α → Prop} (h0 : P []) (hs : ∀ l x, P l → P (l ++ [x])) : ∀ l, P l := by
  have key : ∀ n (l : List α), l.length = n → P l := by
    intro n
    induction n with
    | zero => intro l h; rw [List.eq_nil_of_length_eq_zero h]; exact h0
    | succ n ih =>
      intro l h
      rcases snoc_cases l with rfl | ⟨g, x, rfl⟩
      · cases h
      · refine hs g x (ih g ?_)
        rw [List.length_append] at h
        simp only [List.length_cons, List.length_nil] at h
        omega
  exact fun l => key _ l rfl
/-- the turns of a range -/
theorem ixs_split {lo : Int} {n : Nat} {pre post : List Int} {a : Int} (h : ixs lo n = pre ++ a :: post) : a = lo + (pre.length : Int) ∧ pre.length < n := by
  have e : (ixs lo n)[pre.length]? = some a := by rw [h, List.getElem?_append_right (Nat.le_refl _), Nat.sub_self]; rfl
  rw [ixs_at] at e
  split at e
  · exact ⟨(Option.some.inj e).symm, by assumption⟩
  · cases e
theorem cutD_len {α : Type} (ns : List α) (a b : Option Int) : (cutD ns a b).length ≤ ns.length := by
  unfold cutD
  rw [List.length_take, List.length_drop]
  omega
/-- a comprehension each of whose items is some thing of a kind -/
theorem Sel.pick {α β : Type} {f : β → PyData} {G : β → Prop} {as : List α} {ys : List PyData} (s : Sel (fun _ o => ∃ b, G b ∧ o = some (f b)) as ys) : ∃ bs : List β, ys = bs.map f ∧ (∀ b, b ∈ bs → G b) ∧ bs.length = as.length := by
  induction s with
  | nil => exact ⟨[], rfl, (fun b h => nomatch h), rfl⟩
  | yes _ h ih =>
    obtain ⟨bs, rfl, h1, h2⟩ := ih
    obtain ⟨b, hb, e⟩ := h
    cases e
    refine ⟨bs ++ [b], by rw [List.map_append]; rfl, fun c hc => ?_, by rw [List.length_append, List.length_append, h2]; rfl⟩
    rcases List.mem_append.mp hc with k | k
    · exact h1 c k
    · rw [List.mem_singleton.mp k]; exact hb
  | no _ h => obtain ⟨_, _, e⟩ := h; cases e
theorem ixs_mem {lo x : Int} {n : Nat} (h : x ∈ ixs lo n) : lo ≤ x ∧ x < lo + n := by
  obtain ⟨i, hi, e⟩ := List.getElem_of_mem h
  have e2 := ixs_at (lo := lo) (n := n) (i := i)
  rw [List.getElem?_eq_getElem hi, e] at e2
  split at e2
  · have e3 := Option.some.inj e2
    omega
  · cases e2
theorem cutD_from {α : Type} {xs : List α} {n : Nat} (h : n ≤ xs.length) : cutD xs (some (n : Int)) none = xs.drop n := by
  unfold cutD
  rw [HT.sIx_nat, HT.sIx_none, Nat.min_eq_left h]
  exact List.take_of_length_le (by rw [List.length_drop]; exact Nat.le_refl _)
theorem cutD_to {α : Type} {xs : List α} {n : Nat} (h : n ≤ xs.length) : cutD xs none (some (n : Int)) = xs.take n := by
  unfold cutD
  rw [HT.sIx_nat, HT.sIx_none, Nat.min_eq_left h, List.drop_zero, Nat.sub_zero]

/-! ### _law_stir, _law_cell -/
def G_law_stir : GF := fun ls Po _ => ∃ c k : Int, ls = [.d (.int c), .d (.int k)] ∧ ∀ z : Int, Po (.d (.int z)) []
theorem ok_law_stir (T : Txt K mg) : FnOk P w K mg base CX0 1 T.f_law_stir T.fd_law_stir ["cell", "k"] (SpG K none G_law_stir) := by
  refine T.d_law_stir.F.ok sc_law_stir (SpG.len (n := 2) fun ls Po Pe h => by obtain ⟨_, _, rfl, _⟩ := h; rfl) (fun cdv A outer s H vs Q E hr h => ⟨_, (pss_cons (ps_set (i := 2) sc_law_stir.nd rfl (.inl rfl) (pe_op op_modN (pe_op op_mul (pe_op (k_plus K) (pe_op (k_plus K) (pe_op op_modN (pv 0) pe_int) (pe_op op_mul pe_int (pv 1))) pe_int) pe_int) pe_int))
 (pss_cons (ps_set (i := 2) sc_law_stir.nd rfl (.inl rfl) (pe_op op_modN (pe_op op_mul (pv 2) (pv 2)) pe_int))
 (pss_one (ps_ret (pe_op op_modN (pe_op op_mul (pv 2) pe_int) pe_int))))), rd_of h fun B ls Po Pe hB hG hE => ?_⟩)
  obtain ⟨c, k, rfl, q⟩ := hG
  show WS B K _ [some (.d (.int c)), some (.d (.int k)), none] _
  walk_at "sv"
  exact q _
def G_law_cell : GF := fun ls Po _ => ∃ (ns : List Int) (k : Int), ls = [.scr ns, .d (.int k)] ∧ (0 ≤ k ∧ k ≤ 1000000 ∧ ns.length ≤ 63) ∧ ∀ z : Int, Po (.d (.int z)) []
theorem ok_law_cell (T : Txt K mg) : FnOk P w K mg base CX0 2 T.f_law_cell T.fd_law_cell ["script", "k"] (SpG K none G_law_cell) := by
  refine T.d_law_cell.F.ok sc_law_cell (SpG.len (n := 2) fun ls Po Pe h => by obtain ⟨_, _, rfl, _⟩ := h; rfl) (fun cdv A outer s H vs Q E hr h => ⟨_, (pss_cons (ps_if (pt_cmpR op_lt (pv 1) (pe_callB (k_len K) (by rfl) T.b_len PySem.boot_len (pa_cons (pv 0) pa_nil)) (nomark _)) (pss_one (ps_ret (pe_ix (k_ix K) (pv 0) (pv 1) (fun _ _ => rfl)))) pss_nil)
 (pss_cons (ps_if (pt_cmpR (k_eqD K rfl hr.units) (pe_callB (k_len K) (by rfl) T.b_len PySem.boot_len (pa_cons (pv 0) pa_nil)) pe_int (nomark _)) (pss_one (ps_ret (pe_call (ok_law_stir T) hr (by rfl) T.d_law_stir.g T.d_law_stir.kp T.d_law_stir.b .nil pass0 (pa_cons (pe_op op_mul (pv 1) (pv 1)) (pa_cons (pv 1) pa_nil))))) pss_nil)
 (pss_one (ps_ret (pe_call (ok_law_stir T) hr (by rfl) T.d_law_stir.g T.d_law_stir.kp T.d_law_stir.b .nil pass0 (pa_cons (pe_ix (k_ix K) (pv 0) (pe_op op_modN (pv 1) (pe_callB (k_len K) (by rfl) T.b_len PySem.boot_len (pa_cons (pv 0) pa_nil))) (fun _ _ => rfl)) (pa_cons (pv 1) pa_nil))))))), rd_of h fun B ls Po Pe hB hG hE => ?_⟩)
  obtain ⟨ns, k, rfl, hk, q⟩ := hG
  show WS B K _ [some (.scr ns), some (.d (.int k))] _
  have get : ∀ i : Int, 0 ≤ i → i < ns.length → ∃ n, atI ns i = some n := fun i h0 h1 => by
    obtain ⟨x, hx, _⟩ := atI_lt (xs := ns) h0 h1
    exact ⟨x, hx⟩
  walk_at "sv"
  · obtain ⟨n, hn⟩ := get k hk.1 hc
    exact ⟨k, n, rfl, hn, q _⟩
  · exact ⟨_, _, rfl, fun z => q z⟩
  · have hl : 0 < (ns.length : Int) := by omega
    obtain ⟨n, hn⟩ := get (k % ns.length) (Int.emod_nonneg _ (by omega)) (Int.emod_lt_of_pos _ hl)
    refine ⟨_, n, rfl, hn, ?_⟩
    walk_at "sv"
    exact ⟨_, _, rfl, fun z => q z⟩

/-! ### _law_word: a word of 1 to 12 signs -/
def G_law_word : GF := fun ls Po _ => ∃ c : Int, ls = [.d (.int c)] ∧ ∀ x : Str, IsWord x → Po (.d (.str x)) []
theorem ok_law_word (T : Txt K mg) : FnOk P w K mg base CX0 1 T.f_law_word T.fd_law_word ["cell"] (SpG K none G_law_word) := by
  refine T.d_law_word.F.ok sc_law_word (SpG.len (n := 1) fun ls Po Pe h => by obtain ⟨_, rfl, _⟩ := h; rfl) (fun cdv A outer s H vs Q E hr h => ⟨_, (pss_cons (ps_set (i := 1) sc_law_word.nd rfl (.inl rfl) pe_str)
 (pss_cons (ps_set (i := 2) sc_law_word.nd rfl (.inl rfl) pe_str)
 (pss_cons (ps_set (i := 3) sc_law_word.nd rfl (.inl rfl) (pe_op op_fdivN (pv 0) pe_int))
 (pss_cons (ps_for PassesOwn.never rfl (pi_range1 (by rfl) T.b_range (pa_cons (pe_op (k_plus K) pe_int (pe_op op_modN (pv 0) pe_int)) pa_nil)) (pg_name (i := 4) sc_law_word.nd rfl (Or.inl rfl)) (pss_cons (ps_set (i := 2) sc_law_word.nd rfl (.inl rfl) (pe_op (k_plus K) (pv 2) (pe_ix (k_ix K) (pv 1) (pe_op op_modN (pv 3) pe_int) (fun _ _ => rfl))))
 (pss_one (ps_set (i := 3) sc_law_word.nd rfl (.inl rfl) (pe_op (k_plus K) (pe_op op_fdivN (pv 3) pe_int) (pe_op op_mul pe_int (pv 4)))))))
 (pss_one (ps_ret (pv 2))))))), rd_of h fun B ls Po Pe hB hG hE => ?_⟩)
  obtain ⟨c, rfl, q⟩ := hG
  show WS B K _ [some (.d (.int c)), none, none, none, none] _
  walk_at "sv"
  refine ⟨fun pre ρ => ∃ (x : Str) (l : Int) (o : Option L), ρ = [some (.d (.int c)), some (.d (.str someS)), some (.d (.str x)), some (.d (.int l)), o] ∧ x.length = pre.length ∧ ∀ c, c ∈ x.cps.toList → c ∈ someS.cps.toList,
    ⟨(("" : String) : Str), _, none, rfl, rfl, fun c hc => by rw [show ((("" : String) : Str).cps.toList) = [] from by decide +kernel] at hc; cases hc⟩, fun pre a post ρ2 ha hI => ?_, fun ρ2 hI => ?_⟩
  · obtain ⟨x, l, o, rfl, hx, hc⟩ := hI
    obtain ⟨ea, hl⟩ := ixs_split ha
    walk_at "sv"
    obtain ⟨z, hz, hm⟩ := atI_lt (xs := someS.cps.toList) (i := l % 93) (by omega) (by rw [someS_len]; omega)
    refine ⟨by rw [show someS.length = someS.cps.toList.length from rfl, someS_len]; decide, z, hz, ?_⟩
    have hz1 : (⟨#[z]⟩ : Str).length = 1 := rfl
    walk_at "sv"
    · rw [hx, hz1]; show pre.length + 1 ≤ 1000000; omega
    refine ⟨x ++ ⟨#[z]⟩, _, _, rfl, ?_, fun c hc' => ?_⟩
    · rw [app_len, hx, hz1, List.length_append]; rfl
    · rw [app_list] at hc'
      rcases List.mem_append.mp hc' with h | h
      · exact hc c h
      · have : c = z := by simpa using h
        rw [this]; exact hm
  · obtain ⟨x, l, o, rfl, hx, hc⟩ := hI
    walk_at "sv"
    rw [ixs_len] at hx
    exact q x ⟨by omega, by omega, hc⟩

/-! ### boxes: left, top, right, below -/
abbrev Bx := Int × Int × Int × Int
def boxD (b : Bx) : PyData := .tuple [.int b.1, .int b.2.1, .int b.2.2.1, .int b.2.2.2]
theorem boxD_inj {a b : Bx} (h : boxD a = boxD b) : a = b := by
  obtain ⟨a1, a2, a3, a4⟩ := a
  obtain ⟨b1, b2, b3, b4⟩ := b
  unfold boxD at h
  injection h with h
  injection h with h1 h
  injection h with h2 h
  injection h with h3 h
  injection h with h4 h
  injection h1 with h1
  injection h2 with h2
  injection h3 with h3
  injection h4 with h4
  dsimp only at h1 h2 h3 h4
  rw [h1, h2, h3, h4]
theorem boxD_ok {n : Nat} (b : Bx) : OkD (n + 1) (boxD b) := .tuple fun x hx => by
  simp only [List.mem_cons, List.not_mem_nil, or_false] at hx
  rcases hx with rfl | rfl | rfl | rfl <;> exact OkD.int _
theorem boxes_ok {n : Nat} (bs : List Bx) : OkD (n + 2) (.list (bs.map boxD)) := .list fun x hx => by
  obtain ⟨b, _, rfl⟩ := List.mem_map.mp hx
  exact boxD_ok b
theorem noB_box (b : Bx) : noB (boxD b) = true := rfl
theorem noB_boxes (bs : List Bx) : noB (.list (bs.map boxD)) = true := by
  show noBs _ = true
  exact noBs_of fun x hx => by
    obtain ⟨b, _, rfl⟩ := List.mem_map.mp hx
    rfl

/-! ### own lists of texts within an own thing -/
def OStr (a : Addr) (fs : List Str) : OT := .lst a ((fs.map PyData.str).map .d)
def kidsOf (as : List Addr) (told : List (List Str)) : List OT := List.zipWith OStr as told
theorem kids_snoc {as : List Addr} {told : List (List Str)} {a : Addr} {f : List Str} (h : as.length = told.length) : kidsOf (as ++ [a]) (told ++ [f]) = kidsOf as told ++ [OStr a f] := by
  unfold kidsOf
  exact List.zipWith_append h
theorem kids_len {as : List Addr} {told : List (List Str)} (h : as.length = told.length) : (kidsOf as told).length = told.length := by
  unfold kidsOf
  rw [List.length_zipWith, h, Nat.min_self]
theorem kids_data {as : List Addr} {told : List (List Str)} (h : as.length = told.length) : areD (kidsOf as told) = true ∧ datas (kidsOf as told) = told.map fun f => .list (f.map .str) := by
  induction told generalizing as with
  | nil =>
    cases as with
    | nil => exact ⟨rfl, rfl⟩
    | cons a as => cases h
  | cons f told ih =>
    cases as with
    | nil => cases h
    | cons a as =>
      obtain ⟨h1, h2⟩ := ih (as := as) (by simpa using h)
      have e : kidsOf (a :: as) (f :: told) = OStr a f :: kidsOf as told := rfl
      rw [e]
      constructor
      · show (areD ((f.map PyData.str).map .d) && areD (kidsOf as told)) = true
        rw [areD_map_d, h1]
        rfl
      · show PyData.list (datas ((f.map PyData.str).map .d)) :: datas (kidsOf as told) = _
        rw [datas_map_d, h2]
        rfl
def strsD (f : List Str) : PyData := .list (f.map .str)
theorem kids_D {p : Addr} {as : List Addr} {told : List (List Str)} (h : as.length = told.length) : (OT.lst p (kidsOf as told)).isD = true ∧ (OT.lst p (kidsOf as told)).data = .list (told.map strsD) :=
  ⟨(kids_data h).1, congrArg PyData.list (kids_data h).2⟩
theorem strss_ok {n : Nat} {fs : List (List Str)} (h : ∀ f, f ∈ fs → ∀ v, v ∈ f → PyData.strOk v = true) : OkD (n + 2) (.list (fs.map strsD)) := .list fun x hx => by
  obtain ⟨f, hf, rfl⟩ := List.mem_map.mp hx
  exact OkD.strs (h f hf)
theorem noB_strss (fs : List (List Str)) : noB (.list (fs.map strsD)) = true := by
  show noBs _ = true
  exact noBs_of fun x hx => by
    obtain ⟨b, _, rfl⟩ := List.mem_map.mp hx
    exact noB_strs b
theorem kids_at {as : List Addr} {told : List (List Str)} {i : Nat} {u : OT} (h : (kidsOf as told)[i]? = some u) : ∃ a f, told[i]? = some f ∧ u = OStr a f := by
  unfold kidsOf at h
  rw [List.getElem?_zipWith_eq_some] at h
  obtain ⟨a, f, _, h2, h3⟩ := h
  exact ⟨a, f, h2, h3.symm⟩

/-! ### the words of a row of signs -/
theorem spS_eq : spS = ⟨#[32]⟩ := by decide +kernel
theorem sign_sp (c : Nat) : (⟨#[c]⟩ : Str) = spS ↔ c = 32 := by
  rw [spS_eq]
  constructor
  · intro h
    injection h with h
    simpa using h
  · intro h
    subst h
    rfl
/-- the words told, and the one under way -/
def stepW (s : List Str × Str) (c : Nat) : List Str × Str := if c = 32 then (if s.2 = Str.empty then s else (s.1 ++ [s.2], Str.empty)) else (s.1, s.2 ++ ⟨#[c]⟩)
theorem stepW_sp (s : List Str × Str) : stepW s 32 = if s.2 = Str.empty then s else (s.1 ++ [s.2], Str.empty) := rfl
theorem stepW_no {s : List Str × Str} {c : Nat} (h : ¬ c = 32) : stepW s c = (s.1, s.2 ++ ⟨#[c]⟩) := if_neg h
def finW (s : List Str × Str) : List Str := if s.2 = Str.empty then s.1 else s.1 ++ [s.2]
def rowWords (cs : List Nat) : List Str := finW (cs.foldl stepW ([], Str.empty))
open TL (tl spl spl_nil spl_hit spl_miss pre split_spl kind_ok)
theorem tl_inj {a b : Str} (h : tl a = tl b) : a = b := by
  cases a with
  | mk a =>
    cases b with
    | mk b => exact congrArg Str.mk (Array.toList_inj.mp h)
theorem tl_empty : tl Str.empty = [] := rfl
theorem tl_nil {a : Str} : tl a = [] ↔ a = Str.empty := ⟨fun h => tl_inj h, fun h => by rw [h]; rfl⟩
theorem tl_sign (a : Str) (c : Nat) : tl (a ++ ⟨#[c]⟩) = tl a ++ [c] := by
  show (a ++ (⟨#[c]⟩ : Str)).cps.toList = _
  rw [app_list]

theorem spl_words : ∀ (cs : List Nat) (acc : Str) (ws : List Str), ws.map tl ++ (spl [32] 0 (tl acc) cs).filter (fun x => decide (x ≠ [])) = (finW (cs.foldl stepW (ws, acc))).map tl
  | [], acc, ws => by
    rw [spl_nil]
    show _ = (finW (ws, acc)).map tl
    unfold finW
    by_cases c : acc = Str.empty
    · rw [if_pos c, c]
      show ws.map tl ++ [] = _
      rw [List.append_nil]
    · have c2 : tl acc ≠ [] := fun z => c (tl_nil.mp z)
      rw [if_neg c, List.filter_cons_of_pos (p := fun x => decide (x ≠ [])) (decide_eq_true c2), List.filter_nil, List.map_append]
      rfl
  | d :: cs, acc, ws => by
    rw [List.foldl_cons]
    by_cases e : d = 32
    · subst e
      rw [spl_hit (by rfl)]
      have ih := spl_words cs Str.empty
      rw [stepW_sp]
      by_cases c : acc = Str.empty
      · rw [if_pos c, c, tl_empty, List.filter_cons_of_neg (by simp)]
        exact ih ws
      · have c2 : tl acc ≠ [] := fun z => c (tl_nil.mp z)
        rw [if_neg c, List.filter_cons_of_pos (p := fun x => decide (x ≠ [])) (decide_eq_true c2), ← ih (ws ++ [acc]), List.map_append, List.append_assoc]
        rfl
    · have hp : pre [32] (d :: cs) = false := by
        show (List.take 1 (d :: cs) == [32]) = false
        rw [List.take_succ_cons, List.take_zero]
        exact beq_false_of_ne fun z => e (List.cons.inj z).1
      rw [spl_miss hp, ← tl_sign]
      rw [stepW_no e]
      exact spl_words cs _ ws
theorem split_words (x : Str) : (Txt.split x spS).filter (fun w => decide (w ≠ Str.empty)) = rowWords (tl x) := by
  have e : (Txt.split x spS).map tl = spl [32] 0 [] (tl x) := split_spl x spS (by decide +kernel) (kind_ok (by decide +kernel))
  have k := spl_words (tl x) Str.empty []
  rw [List.map_nil, List.nil_append, tl_empty, ← e, List.filter_map] at k
  have inj : ∀ {a b : List Str}, a.map tl = b.map tl → a = b := by
    intro a
    induction a with
    | nil =>
      intro b h
      cases b with
      | nil => rfl
      | cons y b => cases h
    | cons y a ih =>
      intro b h
      cases b with
      | nil => cases h
      | cons z b =>
        rw [List.map_cons, List.map_cons] at h
        obtain ⟨h1, h2⟩ := List.cons.inj h
        rw [tl_inj h1, ih h2]
  refine inj ?_
  show _ = (finW ((tl x).foldl stepW ([], Str.empty))).map tl
  rw [← k]
  congr 1
  refine List.filter_congr fun w _ => ?_
  show decide (w ≠ Str.empty) = decide (tl w ≠ [])
  exact decide_eq_decide.mpr ⟨fun h z => h (tl_nil.mp z), fun h z => h (by rw [z]; rfl)⟩
theorem split_len (x : Str) : (Txt.split x spS).length ≤ x.length + 1 := by
  have e : (Txt.split x spS).map tl = spl [32] 0 [] (tl x) := split_spl x spS (by decide +kernel) (kind_ok (by decide +kernel))
  have key : ∀ (cs acc : List Nat), (spl [32] 0 acc cs).length ≤ cs.length + 1 := by
    intro cs
    induction cs with
    | nil => intro acc; rw [spl_nil]; exact Nat.le_refl _
    | cons d cs ih =>
      intro acc
      by_cases c : pre [32] (d :: cs) = true
      · rw [spl_hit c]
        exact Nat.succ_le_succ (ih _)
      · rw [spl_miss (by simpa using c)]
        exact Nat.le_succ_of_le (ih _)
  have k := key (tl x) []
  rw [← e, List.length_map] at k
  exact k
/-! the words of a row are its signs, so they are as they should be -/
theorem rowWords_ok {cs : List Nat} (h : ∀ c, c ∈ cs → c < 1114112) : ∀ v, v ∈ rowWords cs → PyData.strOk v = true ∧ v.length ≤ cs.length := by
  have key : ∀ (cs : List Nat) (s : List Str × Str) (n : Nat), (∀ c, c ∈ cs → c < 1114112) → (∀ v, v ∈ s.1 → PyData.strOk v = true ∧ v.length ≤ n) → PyData.strOk s.2 = true → s.2.length ≤ n →
      (∀ v, v ∈ (cs.foldl stepW s).1 → PyData.strOk v = true ∧ v.length ≤ n + cs.length) ∧ PyData.strOk (cs.foldl stepW s).2 = true ∧ (cs.foldl stepW s).2.length ≤ n + cs.length := by
    intro cs
    induction cs with
    | nil => intro s n _ h1 h2 h3; exact ⟨h1, h2, h3⟩
    | cons d cs ih =>
      intro s n hc h1 h2 h3
      rw [List.foldl_cons, List.length_cons]
      have hc' : ∀ c, c ∈ cs → c < 1114112 := fun c h => hc c (List.mem_cons_of_mem _ h)
      have up : ∀ v, v ∈ s.1 → PyData.strOk v = true ∧ v.length ≤ n + 1 := fun v hv => ⟨(h1 v hv).1, by have := (h1 v hv).2; omega⟩
      have go : ∀ t : List Str × Str, (∀ v, v ∈ t.1 → PyData.strOk v = true ∧ v.length ≤ n + 1) → PyData.strOk t.2 = true → t.2.length ≤ n + 1 → (∀ v, v ∈ (cs.foldl stepW t).1 → PyData.strOk v = true ∧ v.length ≤ n + (cs.length + 1)) ∧ PyData.strOk (cs.foldl stepW t).2 = true ∧ (cs.foldl stepW t).2.length ≤ n + (cs.length + 1) := fun t a b c => by
        have k := ih t (n + 1) hc' a b c
        rw [show n + (cs.length + 1) = n + 1 + cs.length by omega]
        exact k
      unfold stepW
      split
      · split
        · exact go s up h2 (by omega)
        · refine go _ (fun v hv => ?_) (show PyData.strOk Str.empty = true by decide +kernel) (Nat.zero_le _)
          rcases List.mem_append.mp hv with q | q
          · exact up v q
          · rw [List.mem_singleton.mp q]
            exact ⟨h2, by omega⟩
      · refine go _ up (strOk_app h2 ?_) ?_
        · unfold PyData.strOk
          have := hc d List.mem_cons_self
          simpa using this
        · show (s.2 ++ (⟨#[d]⟩ : Str)).length ≤ n + 1
          rw [app_len]
          show s.2.length + 1 ≤ n + 1
          omega
  intro v hv
  obtain ⟨h1, h2, h3⟩ := key cs ([], Str.empty) 0 h (fun v hv => nomatch hv) (by decide +kernel) (Nat.le_refl _)
  unfold rowWords finW at hv
  split at hv
  · exact ⟨(h1 v hv).1, by have := (h1 v hv).2; omega⟩
  · rcases List.mem_append.mp hv with q | q
    · exact ⟨(h1 v q).1, by have := (h1 v q).2; omega⟩
    · rw [List.mem_singleton.mp q]
      exact ⟨h2, by omega⟩
theorem rowWords_len (cs : List Nat) : (rowWords cs).length ≤ cs.length + 1 := by
  have key : ∀ (cs : List Nat) (s : List Str × Str), (cs.foldl stepW s).1.length ≤ s.1.length + cs.length := by
    intro cs
    induction cs with
    | nil => intro s; exact Nat.le_refl _
    | cons d cs ih =>
      intro s
      rw [List.foldl_cons, List.length_cons]
      refine Nat.le_trans (ih _) ?_
      unfold stepW
      split
      · split
        · omega
        · simp only [List.length_append, List.length_cons, List.length_nil]
          omega
      · show s.1.length + cs.length ≤ _
        omega
  have k := key cs ([], Str.empty)
  unfold rowWords finW
  split
  · simp only [List.length_nil] at k; omega
  · rw [List.length_append]
    simp only [List.length_nil, List.length_cons] at k ⊢
    omega
/-- the words in a box of some rows -/
def boxWords (rs : List Str) (b : Int × Int × Int × Int) : List Str := (cutD rs (some b.2.1) (some b.2.2.2)).flatMap fun r => rowWords (tl (cutS r (some b.1) (some b.2.2.1)))
theorem sIx_int {n d : Nat} {i : Int} (h0 : 0 ≤ i) (h1 : i ≤ n) : HT.sIx n d (some i) = i.toNat := by
  obtain ⟨m, rfl⟩ := Int.eq_ofNat_of_zero_le h0
  rw [HT.sIx_nat, Nat.min_eq_left (by omega)]
  omega
theorem cutS_list {z : Str} {i j : Int} (h0 : 0 ≤ i) (h1 : i ≤ z.length) (h2 : 0 ≤ j) (h3 : j ≤ z.length) : tl (cutS z (some i) (some j)) = ((tl z).drop i.toNat).take (j.toNat - i.toNat) := by
  unfold cutS
  rw [sIx_int h0 h1, sIx_int h2 h3]
theorem cutD_list {α : Type} {z : List α} {i j : Int} (h0 : 0 ≤ i) (h1 : i ≤ z.length) (h2 : 0 ≤ j) (h3 : j ≤ z.length) : cutD z (some i) (some j) = (z.drop i.toNat).take (j.toNat - i.toNat) := by
  unfold cutD
  rw [sIx_int h0 h1, sIx_int h2 h3]
theorem len_tl (z : Str) : (tl z).length = z.length := Array.length_toList

/-! ### _law_rows: texts of a length, of words and blanks -/
open TL (tl)
/-- texts of one length whose signs are as they should be -/
structure RowsOk (wd hg : Nat) (rs : List Str) : Prop where
  len : rs.length = hg
  wid : ∀ r, r ∈ rs → r.length = wd
  ok : ∀ r, r ∈ rs → PyData.strOk r = true
theorem strOk_srep (n : Int) : PyData.strOk (srepS spS n) = true := by
  unfold srepS
  split
  · decide +kernel
  · split
    · exact strOk_sp
    · unfold PyData.strOk
      have key : ∀ (k : Nat) (a : Array Nat), a.all (· < 1114112) = true → ((List.replicate k spS.cps).foldl (· ++ ·) a).all (· < 1114112) = true := by
        intro k
        induction k with
        | zero => intro a h; exact h
        | succ k ih =>
          intro a h
          rw [List.replicate_succ, List.foldl_cons]
          refine ih _ ?_
          rw [Array.all_append, h]
          exact strOk_sp
      exact key _ _ (by decide +kernel)
theorem strOk_all {z : Str} : PyData.strOk z = true ↔ ∀ c, c ∈ tl z → c < 1114112 := by
  unfold PyData.strOk
  rw [← Array.all_toList, List.all_eq_true]
  exact ⟨fun h c hc => of_decide_eq_true (h c hc), fun h c hc => decide_eq_true (h c hc)⟩
theorem strOk_cut {z : Str} {lo hi : Option Int} (h : PyData.strOk z = true) : PyData.strOk (cutS z lo hi) = true := by
  rw [strOk_all] at h ⊢
  intro c hc
  exact h c (List.mem_of_mem_drop (List.mem_of_mem_take (show c ∈ ((tl z).drop _).take _ from hc)))
def G_law_rows : GF := fun ls Po _ => ∃ (ns : List Int) (wd hg : Nat), ls = [.scr ns, .d (.int wd), .d (.int hg)] ∧ (ns.length ≤ 63 ∧ wd ≤ 30 ∧ hg ≤ 12) ∧ ∀ rs : List Str, RowsOk wd hg rs → Po (.d (.list (rs.map .str))) []
theorem ok_law_rows (T : Txt K mg) : FnOk P w K mg base CX0 3 T.f_law_rows T.fd_law_rows ["script", "wide", "high"] (SpG K none G_law_rows) := by
  refine T.d_law_rows.F.ok sc_law_rows (SpG.len (n := 3) fun ls Po Pe h => by obtain ⟨_, _, _, rfl, _⟩ := h; rfl) (fun cdv A outer s H vs Q E hr h => ⟨_, (pss_cons (ps_set (i := 3) sc_law_rows.nd rfl (.inr rfl) pe_str)
 (pss_cons (ps_set (i := 4) sc_law_rows.nd rfl (.inl rfl) pe_int)
 (pss_cons (ps_while PassesOwn.never (pt_cmpR op_lt (pe_callB (k_len K) (by rfl) T.b_len PySem.boot_len (pa_cons (pv 3) pa_nil)) (pe_op op_mul (pv 1) (pv 2)) (nomark _)) (pss_cons (ps_set (i := 5) sc_law_rows.nd rfl (.inl rfl) (pe_call (ok_law_cell T) hr (by rfl) T.d_law_cell.g T.d_law_cell.kp T.d_law_cell.b .nil pass0 (pa_cons (pv 0) (pa_cons (pe_op (k_plus K) pe_int (pe_op op_modN (pe_op op_sub (pv 4) pe_int) pe_int)) pa_nil))))
 (pss_cons (ps_set (i := 3) sc_law_rows.nd rfl (.inr rfl) (pe_op (k_plus K) (pe_op (k_plus K) (pv 3) (pe_call (ok_law_word T) (hr.mono (by decide)) (by rfl) T.d_law_word.g T.d_law_word.kp T.d_law_word.b .nil pass0 (pa_cons (pv 5) pa_nil))) (pe_op op_srep pe_str (pe_op op_modN (pe_op op_fdivN (pv 5) pe_int) pe_int))))
 (pss_one (ps_set (i := 4) sc_law_rows.nd rfl (.inl rfl) (pe_op (k_plus K) (pv 4) pe_int))))))
 (pss_one (ps_ret (pe_lc (own := [("y", 6)]) (g := _) (tt := _) (by rfl) sc_law_rows.nd (pi_range1 (by rfl) T.b_range (pa_cons (pv 2) pa_nil)) (blkOk_by (N := N_law_rows) (sc := defScope s_law_rows) (by decide +kernel)) (fun _ _ _ _ _ => (pg_name (i := 6) sc_law_rows.nd rfl (Or.inl rfl))) (fun _ _ _ _ _ => pts_nil) (fun _ _ _ _ _ => (pe_slice (k_sl K) (pv 3) (po_some (pe_op op_mul (pv 6) (pv 1))) (po_some (pe_op op_mul (pe_op (k_plus K) (pv 6) pe_int) (pv 1))))))))))), rd_of h fun B ls Po Pe hB hG hE => ?_⟩)
  obtain ⟨ns, wd, hg, rfl, ⟨hn, hwd, hhg⟩, q⟩ := hG
  show WS B K _ [some (.scr ns), some (.d (.int wd)), some (.d (.int hg)), none, none, none, none] _
  walk_at "sv"
  have hm : (wd : Int) * hg ≤ 30 * 12 := by
    have := Nat.mul_le_mul hwd hhg
    have e : ((wd * hg : Nat) : Int) = (wd : Int) * hg := Int.natCast_mul wd hg
    omega
  refine ws_while (fun m ρ => ∃ (x : Str) (k : Int) (o : Option L), m = 400 - x.length ∧ ρ = [some (.scr ns), some (.d (.int wd)), some (.d (.int hg)), some (.d (.str x)), some (.d (.int k)), o, none] ∧ x.length ≤ 400 ∧ PyData.strOk x = true) ⟨_, Str.empty, 3, none, rfl, rfl, Nat.zero_le _, by decide +kernel⟩ fun m ρ1 hI => ?_
  obtain ⟨x, k, o, rfl, rfl, hx, hxo⟩ := hI
  walk_at "sv"
  · refine ⟨ns, _, rfl, ⟨by omega, by omega, hn⟩, fun z => ?_⟩
    walk_at "sv"
    refine ⟨_, rfl, fun v hv => ⟨_, rfl, ?_⟩⟩
    have hv2 := hv.2.1
    have hv1 := hv.1
    have hz : z / 5 % 4 < 4 := by omega
    have hz0 : 0 ≤ z / 5 % 4 := by omega
    have sl := spS_len
    walk_at "sv"
    · show x.length + v.length ≤ 1000000
      omega
    refine ⟨⟨by omega, by omega, ?_⟩, plus_str ?_ ?_⟩
    · show spS.length * (z / 5 % 4).toNat ≤ 1000000
      rw [sl]
      omega
    · show (x ++ v).length + (srepS spS (z / 5 % 4)).length ≤ 1000000
      rw [app_len, srepS_len, sl]
      omega
    walk_at "sv"
    have hl : (x ++ v ++ srepS spS (z / 5 % 4)).length = x.length + v.length + (z / 5 % 4).toNat := by
      rw [app_len, app_len, srepS_len, sl, Nat.one_mul]
    refine ⟨_, by rw [show (x ++ v ++ srepS (Str.ofString " ") (z / 5 % 4)).length = x.length + v.length + (z / 5 % 4).toNat from hl]; omega, _, _, _, rfl, rfl, by rw [show (x ++ v ++ srepS (Str.ofString " ") (z / 5 % 4)).length = x.length + v.length + (z / 5 % 4).toNat from hl]; omega, ?_⟩
    exact strOk_app (strOk_app hxo (strOk_word hv)) (strOk_srep _)
  · refine wd_e (we_lc1 (fun (y : Int) o => o = some (.str (cutS x (some (y * wd)) (some ((y + 1) * wd))))) (.name 6) ?_)
    walk_at "sv"
    refine ⟨fun a ha B' hB' => ?_, fun ys hy => ?_⟩
    · walk_at "sv"
      exact rfl
    · have e := Sel.map (f := fun y : Int => PyData.str (cutS x (some (y * wd)) (some ((y + 1) * wd)))) hy
      subst e
      have hc' : (wd : Int) * hg ≤ x.length := by
        rcases Int.lt_or_le (x.length : Int) ((wd : Int) * hg) with h | h
        · exact absurd h hc
        · exact h
      have k := q ((ixs 0 (hg : Int).toNat).map fun y => cutS x (some (y * wd)) (some ((y + 1) * wd))) ⟨by rw [List.length_map, ixs_len]; omega, fun r hr => ?_, fun r hr => ?_⟩
      · rw [List.map_map] at k
        exact ⟨_, rfl, k⟩
      · obtain ⟨y, hy, rfl⟩ := List.mem_map.mp hr
        obtain ⟨i, hi, e⟩ := List.getElem_of_mem hy
        have e2 := ixs_at (lo := 0) (n := (hg : Int).toNat) (i := i)
        rw [List.getElem?_eq_getElem hi, e] at e2
        split at e2
        · have e3 := Option.some.inj e2
          have h0 : 0 ≤ y := by omega
          have h1 : y + 1 ≤ hg := by omega
          have m1 : 0 ≤ y * wd := Int.mul_nonneg h0 (by omega)
          have m2 : (y + 1) * wd ≤ hg * wd := Int.mul_le_mul_of_nonneg_right h1 (by omega)
          have m3 : (y + 1) * wd = y * wd + wd := by rw [Int.add_mul, Int.one_mul]
          have m4 : (hg : Int) * wd = wd * hg := Int.mul_comm _ _
          have e4 := congrArg List.length (cutS_list (z := x) (i := y * wd) (j := (y + 1) * wd) m1 (by omega) (by omega) (by omega))
          rw [len_tl, List.length_take, List.length_drop, len_tl] at e4
          rw [e4]
          omega
        · cases e2
      · obtain ⟨y, hy, rfl⟩ := List.mem_map.mp hr
        exact strOk_cut hxo

/-! ### _law_box -/
/-- a box within a width and a height -/
structure InBx (wd hg : Int) (b : Bx) : Prop where
  hl : 0 ≤ b.1
  ht : 0 ≤ b.2.1
  hr : b.2.2.1 ≤ wd
  hb : b.2.2.2 ≤ hg
structure GoodBx (wd hg : Int) (b : Bx) : Prop extends InBx wd hg b where
  hlr : b.1 < b.2.2.1
  htb : b.2.1 < b.2.2.2
def G_law_box : GF := fun ls Po _ => ∃ c wd hg : Int, ls = [.d (.int c), .d (.int wd), .d (.int hg)] ∧ (1 ≤ wd ∧ wd ≤ 1000 ∧ 1 ≤ hg ∧ hg ≤ 1000) ∧ ∀ b : Bx, GoodBx wd hg b → Po (.d (boxD b)) []
theorem ok_law_box (T : Txt K mg) : FnOk P w K mg base CX0 1 T.f_law_box T.fd_law_box ["cell", "wide", "high"] (SpG K none G_law_box) := by
  refine T.d_law_box.F.ok sc_law_box (SpG.len (n := 3) fun ls Po Pe h => by obtain ⟨_, _, _, rfl, _⟩ := h; rfl) (fun cdv A outer s H vs Q E hr h => ⟨_, (pss_cons (ps_set (i := 3) sc_law_box.nd rfl (.inl rfl) (pe_op op_modN (pv 0) (pv 1)))
 (pss_cons (ps_set (i := 4) sc_law_box.nd rfl (.inl rfl) (pe_op op_modN (pe_op op_fdivN (pv 0) pe_int) (pv 2)))
 (pss_one (ps_ret (pe_tup (pa_cons (pv 3) (pa_cons (pv 4) (pa_cons (pe_op (k_plus K) (pe_op (k_plus K) (pv 3) pe_int) (pe_op op_modN (pe_op op_fdivN (pv 0) pe_int) (pe_op op_sub (pv 1) (pv 3)))) (pa_cons (pe_op (k_plus K) (pe_op (k_plus K) (pv 4) pe_int) (pe_op op_modN (pe_op op_fdivN (pv 0) pe_int) (pe_op op_sub (pv 2) (pv 4)))) pa_nil))))))))), rd_of h fun B ls Po Pe hB hG hE => ?_⟩)
  obtain ⟨c, wd, hg, rfl, h, q⟩ := hG
  show WS B K _ [some (.d (.int c)), some (.d (.int wd)), some (.d (.int hg)), none, none] _
  have h1 := Int.emod_nonneg c (show wd ≠ 0 by omega)
  have h2 := Int.emod_lt_of_pos c (show 0 < wd by omega)
  have h3 := Int.emod_nonneg (c / 30) (show hg ≠ 0 by omega)
  have h4 := Int.emod_lt_of_pos (c / 30) (show 0 < hg by omega)
  walk_at "sv"
  have h5 := Int.emod_nonneg (c / 360) (show wd - c % wd ≠ 0 by omega)
  have h6 := Int.emod_lt_of_pos (c / 360) (show 0 < wd - c % wd by omega)
  have h7 := Int.emod_nonneg (c / 10800) (show hg - c / 30 % hg ≠ 0 by omega)
  have h8 := Int.emod_lt_of_pos (c / 10800) (show 0 < hg - c / 30 % hg by omega)
  exact q (c % wd, c / 30 % hg, c % wd + 1 + c / 360 % (wd - c % wd), c / 30 % hg + 1 + c / 10800 % (hg - c / 30 % hg)) ⟨⟨h1, h3, by dsimp only; omega, by dsimp only; omega⟩, by dsimp only; omega, by dsimp only; omega⟩

/-! ### _law_words: the words of a box, sign by sign -/
open TL (tl)
theorem take_succ_of {α : Type} {l : List α} {i : Nat} {x : α} (h : l[i]? = some x) : l.take (i + 1) = l.take i ++ [x] := take_snoc h
theorem box_row {wd hg : Nat} {rs : List Str} {b : Bx} (R : RowsOk wd hg rs) (g : GoodBx wd hg b) {i : Nat} (hi : (i : Int) < b.2.2.2 - b.2.1) :
    ∃ r, rs[(b.2.1 + i).toNat]? = some r ∧ (cutD rs (some b.2.1) (some b.2.2.2))[i]? = some r ∧ r.length = wd ∧ PyData.strOk r = true := by
  have h1 := g.ht
  have h2 := g.hb
  have hl : (b.2.1 + i).toNat < rs.length := by rw [R.len]; omega
  have hm := List.getElem_mem hl
  refine ⟨rs[(b.2.1 + i).toNat], List.getElem?_eq_getElem hl, ?_, R.wid _ hm, R.ok _ hm⟩
  rw [cutD_list h1 (by rw [R.len]; omega) (by omega) (by rw [R.len]; omega), List.getElem?_take, if_pos (by omega), List.getElem?_drop, show b.2.1.toNat + i = (b.2.1 + i).toNat by omega]
  exact List.getElem?_eq_getElem hl
theorem box_sign {wd hg : Nat} {b : Bx} (g : GoodBx wd hg b) {r : Str} (hr : r.length = wd) {j : Nat} (hj : (j : Int) < b.2.2.1 - b.1) :
    ∃ c, (tl r)[(b.1 + j).toNat]? = some c ∧ (tl (cutS r (some b.1) (some b.2.2.1)))[j]? = some c := by
  have h1 := g.hl
  have h2 := g.hr
  have hl : (b.1 + j).toNat < (tl r).length := by rw [len_tl, hr]; omega
  refine ⟨(tl r)[(b.1 + j).toNat], List.getElem?_eq_getElem hl, ?_⟩
  rw [cutS_list h1 (by rw [hr]; omega) (by omega) (by rw [hr]; omega), List.getElem?_take, if_pos (by omega), List.getElem?_drop, show b.1.toNat + j = (b.1 + j).toNat by omega]
  exact List.getElem?_eq_getElem hl
def G_law_words : GF := fun ls Po _ => ∃ (wd hg : Nat) (rs : List Str) (b : Bx), ls = [.d (.list (rs.map .str)), .d (boxD b)] ∧ (RowsOk wd hg rs ∧ GoodBx wd hg b ∧ wd ≤ 400 ∧ hg ≤ 400) ∧ Po (.new ((boxWords rs b).map .str)) []
theorem ok_law_words (T : Txt K mg) : FnOk P w K mg base CX0 1 T.f_law_words T.fd_law_words ["rows", "box"] (SpG K none G_law_words) := by
  refine T.d_law_words.F.ok sc_law_words (SpG.len (n := 2) fun ls Po Pe h => by obtain ⟨_, _, _, _, rfl, _⟩ := h; rfl) (fun cdv A outer s H vs Q E hr h => ⟨_, (pss_cons (ps_setO (i := 2) sc_law_words.nd rfl (.inl rfl) (pe_lst pa_nil))
 (pss_cons (ps_for PassesOwn.never rfl (pi_range2 (by rfl) T.b_range (pa_cons (pe_ix (k_ix K) (pv 1) pe_int (fun _ _ => rfl)) (pa_cons (pe_ix (k_ix K) (pv 1) pe_int (fun _ _ => rfl)) pa_nil))) (pg_name (i := 3) sc_law_words.nd rfl (Or.inl rfl)) (pss_cons (ps_set (i := 4) sc_law_words.nd rfl (.inl rfl) pe_str)
 (pss_cons (ps_for PassesOwn.never rfl (pi_range2 (by rfl) T.b_range (pa_cons (pe_ix (k_ix K) (pv 1) pe_int (fun _ _ => rfl)) (pa_cons (pe_ix (k_ix K) (pv 1) pe_int (fun _ _ => rfl)) pa_nil))) (pg_name (i := 5) sc_law_words.nd rfl (Or.inl rfl)) (pss_one (ps_if (pt_cmpR (k_neD K rfl hr.units) (pe_ix (k_ix K) (pe_ix (k_ix K) (pv 0) (pv 3) (fun _ _ => rfl)) (pv 5) (fun _ _ => rfl)) pe_str (nomark _)) (pss_one (ps_set (i := 4) sc_law_words.nd rfl (.inl rfl) (pe_op (k_plus K) (pv 4) (pe_ix (k_ix K) (pe_ix (k_ix K) (pv 0) (pv 3) (fun _ _ => rfl)) (pv 5) (fun _ _ => rfl))))) (pss_one (ps_if (pt_cmpR (k_neD K rfl hr.units) (pv 4) pe_str (nomark _)) (pss_cons (ps_expr (k_bm K rfl PySem.F.plainAttrs_list PySem.F.slot_list_append PySem.F.type_list_append mt_append (pv 2) (pa_cons (pv 4) pa_nil)))
 (pss_one (ps_set (i := 4) sc_law_words.nd rfl (.inl rfl) pe_str))) pss_nil)))))
 (pss_one (ps_if (pt_cmpR (k_neD K rfl hr.units) (pv 4) pe_str (nomark _)) (pss_one (ps_expr (k_bm K rfl PySem.F.plainAttrs_list PySem.F.slot_list_append PySem.F.type_list_append mt_append (pv 2) (pa_cons (pv 4) pa_nil)))) pss_nil)))))
 (pss_one (ps_ret (pv 2))))), rd_of h fun B ls Po Pe hB hG hE => ?_⟩)
  obtain ⟨wd, hg, rs, b, rfl, ⟨R, g, hwd, hhg⟩, q⟩ := hG
  show WS B K _ [some (.d (.list (rs.map .str))), some (.d (boxD b)), none, none, none, none] _
  have e1 := g.hl
  have e2 := g.ht
  have e3 := g.hr
  have e4 := g.hb
  have e5 := g.hlr
  have e6 := g.htb
  unfold boxD
  walk_at "sv"
  let fl : Nat → List Str := fun n => ((cutD rs (some b.2.1) (some b.2.2.2)).take n).flatMap fun r => rowWords (tl (cutS r (some b.1) (some b.2.2.1)))
  have fl_len : ∀ n : Nat, n ≤ hg → (fl n).length ≤ 1000 * n := fun n => by
    intro _
    induction n with
    | zero => exact Nat.le_refl _
    | succ n ih =>
      have ih := ih (by omega)
      by_cases hn : n < (cutD rs (some b.2.1) (some b.2.2.2)).length
      · have e := take_snoc (List.getElem?_eq_getElem hn)
        have hm : ∃ r, r ∈ rs ∧ (cutD rs (some b.2.1) (some b.2.2.2))[n] = r := ⟨_, List.mem_of_mem_drop (List.mem_of_mem_take (List.getElem_mem hn)), rfl⟩
        obtain ⟨r, hr, er⟩ := hm
        have k := rowWords_len (tl (cutS r (some b.1) (some b.2.2.1)))
        rw [len_tl] at k
        have k2 := cutS_length r (some b.1) (some b.2.2.1)
        have k3 := R.wid r hr
        show (((cutD rs (some b.2.1) (some b.2.2.2)).take (n + 1)).flatMap _).length ≤ _
        rw [e, List.flatMap_append, List.length_append, er]
        show (fl n).length + (rowWords (tl (cutS r (some b.1) (some b.2.2.1))) ++ []).length ≤ _
        rw [List.append_nil]
        omega
      · have e : (cutD rs (some b.2.1) (some b.2.2.2)).take (n + 1) = (cutD rs (some b.2.1) (some b.2.2.2)).take n := by
          rw [List.take_of_length_le (by omega), List.take_of_length_le (by omega)]
        show (((cutD rs (some b.2.1) (some b.2.2.2)).take (n + 1)).flatMap _).length ≤ _
        rw [e]
        show (fl n).length ≤ _
        omega
  refine ⟨fun pre ρ => ∃ o3 o4 o5, ρ = [some (.d (.list (rs.map .str))), some (.d (boxD b)), some (.own ((fl pre.length).map .str)), o3, o4, o5], ⟨_, _, _, rfl⟩, fun pre a post ρ2 ha hI => ?_, fun ρ2 hI => ?_⟩
  · obtain ⟨o3, o4, o5, rfl⟩ := hI
    obtain ⟨ea, hl⟩ := ixs_split ha
    obtain ⟨r, hr1, hr2, hrw, hro⟩ := box_row R g (i := pre.length) (by omega)
    rw [← ea] at hr1
    have hfl := fl_len pre.length (by omega)
    have atr : atI (rs.map PyData.str) a = some (.str r) := by
      rw [show a = ((a.toNat : Nat) : Int) by omega]
      exact atI_nat (by rw [List.getElem?_map, hr1]; rfl)
    have row_ok : ∀ c, c ∈ tl (cutS r (some b.1) (some b.2.2.1)) → c < 1114112 := strOk_all.mp (strOk_cut hro)
    have row_len := cutS_length r (some b.1) (some b.2.2.1)
    let cs : List Nat := tl (cutS r (some b.1) (some b.2.2.1))
    let S : Nat → List Str × Str := fun n => (cs.take n).foldl stepW ([], Str.empty)
    have hS : ∀ n c, cs[n]? = some c → S (n + 1) = stepW (S n) c := fun n c h => by
      show (cs.take (n + 1)).foldl stepW _ = _
      rw [take_snoc h, List.foldl_append]
      rfl
    have hcl : cs.length = (b.2.2.1 - b.1).toNat := by
      show (tl (cutS r (some b.1) (some b.2.2.1))).length = _
      rw [cutS_list e1 (by omega) (by omega) (by omega), List.length_take, List.length_drop, len_tl]
      omega
    have hSb : ∀ n, n ≤ 400 → (S n).1.length ≤ n ∧ (S n).2.length ≤ n ∧ PyData.strOk (S n).2 = true := fun n => by
      induction n with
      | zero => intro _; exact ⟨Nat.le_refl _, Nat.le_refl _, show PyData.strOk Str.empty = true by decide +kernel⟩
      | succ n ih =>
        intro hn
        obtain ⟨i1, i2, i3⟩ := ih (by omega)
        by_cases hc : n < cs.length
        · have hcm := List.getElem_mem hc
          rw [hS n _ (List.getElem?_eq_getElem hc)]
          unfold stepW
          split
          · split
            · exact ⟨by omega, by omega, i3⟩
            · refine ⟨?_, Nat.zero_le _, show PyData.strOk Str.empty = true by decide +kernel⟩
              show ((S n).1 ++ [(S n).2]).length ≤ _
              rw [List.length_append]
              show _ + 1 ≤ _
              omega
          · refine ⟨by show (S n).1.length ≤ _; omega, ?_, strOk_app i3 ?_⟩
            · show ((S n).2 ++ (⟨#[cs[n]]⟩ : Str)).length ≤ _
              rw [app_len]
              show _ + 1 ≤ _
              omega
            · have := row_ok _ hcm
              unfold PyData.strOk
              simpa using this
        · have e : S (n + 1) = S n := by
            show (cs.take (n + 1)).foldl stepW _ = (cs.take n).foldl stepW _
            rw [List.take_of_length_le (by omega), List.take_of_length_le (by omega)]
          rw [e]
          exact ⟨by omega, by omega, i3⟩
    unfold boxD
    walk_at "sv"
    refine ⟨fun pre2 ρ => ∃ o5, ρ = [some (.d (.list (rs.map .str))), some (.d (boxD b)), some (.own ((fl pre.length ++ (S pre2.length).1).map .str)), some (.d (.int a)), some (.d (.str (S pre2.length).2)), o5], ⟨o5, ?_⟩, fun pre2 a2 post2 ρ2 ha2 hI => ?_, fun ρ2 hI => ?_⟩
    · show _ = [_, _, some (L.own ((fl pre.length ++ []).map .str)), _, _, _]
      rw [List.append_nil]
      rfl
    · obtain ⟨o5, rfl⟩ := hI
      obtain ⟨ea2, hl2⟩ := ixs_split ha2
      obtain ⟨c, hc1, hc2⟩ := box_sign g hrw (j := pre2.length) (by omega)
      rw [← ea2] at hc1
      have atc : atI (tl r) a2 = some c := by
        rw [show a2 = ((a2.toNat : Nat) : Int) by omega]
        exact atI_nat hc1
      have hst := hS pre2.length c hc2
      obtain ⟨b1, b2, b3⟩ := hSb pre2.length (by omega)
      have nx : ∀ st, stepW (S pre2.length) c = st → ∃ o5, [some (L.d (.list (rs.map .str))), some (.d (boxD b)), some (.own ((fl pre.length ++ st.1).map .str)), some (.d (.int a)), some (.d (.str st.2)), some (.d (.int a2))] = [some (L.d (.list (rs.map .str))), some (.d (boxD b)), some (.own ((fl pre.length ++ (S (pre2 ++ [a2]).length).1).map .str)), some (.d (.int a)), some (.d (.str (S (pre2 ++ [a2]).length).2)), o5] := fun st e => by
        rw [List.length_append, show [a2].length = 1 from rfl, hst, e]
        exact ⟨_, rfl⟩
      generalize S pre2.length = st at b1 b2 b3 nx
      obtain ⟨ws, acc⟩ := st
      dsimp only at b1 b2 b3
      walk_at "sv"
      refine idx_list atr ?_
      walk_at "sv"
      have okc : ∀ d : Nat, d ∈ tl r → OkD 60 (.str ⟨#[d]⟩) := fun d hd => OkD.str (by
        have := strOk_all.mp hro d hd
        unfold PyData.strOk
        simpa using this)
      have okc := okc c (List.mem_of_getElem? hc1)
      have osp : OkD 60 (.str (Str.ofString " ")) := OkD.str (by decide +kernel)
      have oem : OkD 60 (.str (Str.ofString "")) := OkD.str (by decide +kernel)
      have oac : OkD 60 (.str acc) := OkD.str b3
      refine ⟨c, atc, ?_⟩
      walk_at "sv"
      · have e32 : c = 32 := (sign_sp c).mp (show (⟨#[c]⟩ : Str) = Str.ofString " " from by assumption)
        have ea : acc = Str.empty := hc
        have k := nx (ws, acc) (by rw [e32, stepW_sp, if_pos ea])
        exact k
      · have e32 : c = 32 := (sign_sp c).mp (show (⟨#[c]⟩ : Str) = Str.ofString " " from by assumption)
        have ea : ¬ acc = Str.empty := hc
        have k := nx (ws ++ [acc], Str.empty) (by rw [e32, stepW_sp, if_neg ea])
        rw [show fl pre.length ++ (ws ++ [acc]) = (fl pre.length ++ ws) ++ [acc] by rw [List.append_assoc], List.map_append (l₁ := fl pre.length ++ ws)] at k
        exact k
      · have e32 : ¬ c = 32 := fun z => absurd ((sign_sp c).mpr z) (show ¬ (⟨#[c]⟩ : Str) = Str.ofString " " from hc)
        have k := nx (ws, acc ++ ⟨#[c]⟩) (stepW_no e32)
        refine idx_list atr ?_
        walk_at "sv"
        refine ⟨c, atc, ?_⟩
        walk_at "sv"
        · show acc.length + 1 ≤ 1000000
          omega
        · exact k
    · obtain ⟨o5, rfl⟩ := hI
      rw [ixs_len]
      have oem : OkD 60 (.str (Str.ofString "")) := OkD.str (by decide +kernel)
      have oac : OkD 60 (.str (S (b.2.2.1 - b.1).toNat).2) := OkD.str (hSb _ (by omega)).2.2
      have hb1 := (hSb (b.2.2.1 - b.1).toNat (by omega)).1
      have hfin : fl (pre ++ [a]).length = fl pre.length ++ finW (S (b.2.2.1 - b.1).toNat) := by
        show ((cutD rs (some b.2.1) (some b.2.2.2)).take (pre ++ [a]).length).flatMap _ = _
        rw [List.length_append, show [a].length = 1 from rfl, take_snoc hr2, List.flatMap_append]
        show fl pre.length ++ (rowWords cs ++ []) = _
        rw [List.append_nil, ← hcl]
        show _ ++ finW (cs.foldl stepW ([], Str.empty)) = _ ++ finW ((cs.take cs.length).foldl stepW ([], Str.empty))
        rw [List.take_length]
      walk_at "sv"
      · have e : finW (S (b.2.2.1 - b.1).toNat) = (S (b.2.2.1 - b.1).toNat).1 := if_pos hc
        refine ⟨some (.d (.int a)), some (.d (.str (S (b.2.2.1 - b.1).toNat).2)), o5, ?_⟩
        rw [hfin, e]
        rfl
      · have e : finW (S (b.2.2.1 - b.1).toNat) = (S (b.2.2.1 - b.1).toNat).1 ++ [(S (b.2.2.1 - b.1).toNat).2] := if_neg hc
        refine ⟨some (.d (.int a)), some (.d (.str (S (b.2.2.1 - b.1).toNat).2)), o5, ?_⟩
        rw [hfin, e, ← List.append_assoc, List.map_append (l₁ := fl pre.length ++ _)]
        rfl
  · obtain ⟨o3, o4, o5, rfl⟩ := hI
    walk_at "sv"
    have e : fl (ixs b.2.1 (b.2.2.2 - b.2.1).toNat).length = boxWords rs b := by
      rw [ixs_len]
      show ((cutD rs (some b.2.1) (some b.2.2.2)).take _).flatMap _ = (cutD rs (some b.2.1) (some b.2.2.2)).flatMap _
      rw [List.take_of_length_le]
      rw [cutD_list e2 (by rw [R.len]; omega) (by omega) (by rw [R.len]; omega), List.length_take]
      omega
    rw [e]
    exact q

/-! ### words_in -/
open TL (tl)
open TL (spl spl_nil spl_hit spl_miss pre split_spl kind_ok) in
theorem split_ok {x : Str} (h : PyData.strOk x = true) : ∀ w, w ∈ Txt.split x spS → PyData.strOk w = true := by
  have e : (Txt.split x spS).map tl = spl [32] 0 [] (tl x) := split_spl x spS (by decide +kernel) (kind_ok (by decide +kernel))
  have key : ∀ (cs acc : List Nat), (∀ c, c ∈ acc → c < 1114112) → (∀ c, c ∈ cs → c < 1114112) → ∀ q, q ∈ spl [32] 0 acc cs → ∀ c, c ∈ q → c < 1114112 := by
    intro cs
    induction cs with
    | nil =>
      intro acc h1 _ q hq
      rw [spl_nil] at hq
      rw [List.mem_singleton.mp hq]
      exact h1
    | cons d cs ih =>
      intro acc h1 h2 q hq
      have h3 : ∀ c, c ∈ cs → c < 1114112 := fun c hc => h2 c (List.mem_cons_of_mem _ hc)
      by_cases c : pre [32] (d :: cs) = true
      · rw [spl_hit c] at hq
        rcases List.mem_cons.mp hq with rfl | hq
        · exact h1
        · exact ih [] (fun c hc => nomatch hc) h3 q hq
      · rw [spl_miss (by simpa using c)] at hq
        refine ih _ (fun c hc => ?_) h3 q hq
        rcases List.mem_append.mp hc with k | k
        · exact h1 c k
        · rw [List.mem_singleton.mp k]
          exact h2 d List.mem_cons_self
  intro w hw
  rw [strOk_all]
  exact key (tl x) [] (fun c hc => nomatch hc) (strOk_all.mp h) (tl w) (by rw [← e]; exact List.mem_map.mpr ⟨w, hw, rfl⟩)
def G_words_in (C : Addr) : GF := fun ls Po Pe => ∃ (wd hg : Nat) (rs : List Str) (bs : List Bx), ls = [.d (.list (rs.map .str)), .d (.list (bs.map boxD))] ∧ (RowsOk wd hg rs ∧ wd ≤ 400 ∧ 1 ≤ hg ∧ hg ≤ 400 ∧ bs.length ≤ 1000) ∧
  ((∀ b, b ∈ bs → InBx wd hg b) → ∀ p as, as.length = bs.length → Po (.deep (.lst p (kidsOf as (bs.map (boxWords rs))))) []) ∧ ((∃ b, b ∈ bs ∧ ¬ InBx wd hg b) → Pe C)
theorem ok_words_in (T : Txt K mg) : FnOk P w K mg base (L2.CX P w) 1 T.f_words_in T.fd_words_in ["rows", "boxes"] (SpG K none (G_words_in T.a_NoPlace)) := by
  refine T.d_words_in.F.okX sc_words_in (SpG.len (n := 2) fun ls Po Pe h => by obtain ⟨_, _, _, _, rfl, _⟩ := h; rfl) (fun cdv A outer s H vs Q E hr h => ⟨_, (pss_cons (ps_setO (i := 2) sc_words_in.nd rfl (.inl rfl) (pe_lst pa_nil))
 (pss_cons (ps_for (passes_of rfl) rfl (k_piL K rfl (pv 1)) (k_gTup K rfl rfl (pgs_cons (pg_name (i := 3) sc_words_in.nd rfl (Or.inl rfl)) (pgs_cons (pg_name (i := 4) sc_words_in.nd rfl (Or.inl rfl)) (pgs_cons (pg_name (i := 5) sc_words_in.nd rfl (Or.inl rfl)) (pgs_cons (pg_name (i := 6) sc_words_in.nd rfl (Or.inl rfl)) pgs_nil))))) (pss_cons (ps_if (PW.pt (pw_or (pt_cmpR op_lt (pv 3) pe_int (nomark _)) (pw_or (pt_cmpR op_lt (pv 4) pe_int (nomark _)) (pw_or (pt_cmpR op_gt (pv 6) (pe_callB (k_len K) (by rfl) T.b_len PySem.boot_len (pa_cons (pv 0) pa_nil)) (nomark _)) (pw_or1 (pt_cmpR op_gt (pv 5) (pe_callB (k_min K rfl rfl) (by rfl) T.b_min (by decide +kernel) (pa_cons (pe_lc (own := [("row", 7)]) (g := _) (tt := _) (by rfl) sc_words_in.nd (k_piL K rfl (pv 0)) (blkOk_by (N := N_words_in) (sc := defScope s_words_in) (by decide +kernel)) (fun _ _ _ _ _ => (pg_name (i := 7) sc_words_in.nd rfl (Or.inl rfl))) (fun _ _ _ _ _ => pts_nil) (fun _ _ _ _ _ => (pe_callB (k_len K) (by rfl) T.b_len PySem.boot_len (pa_cons (pv 7) pa_nil)))) pa_nil)) (nomark _))))))) (pss_one (p_raise (takes_of rfl rfl rfl rfl) (pmk_own PySem.F.excBase_ValueError T.NoPlace.x T.NoPlace.g T.NoPlace.k (raises_own T.NoPlace.b T.NoPlace.t) (by exact rfl)))) pss_nil)
 (pss_cons (ps_setO (i := 8) sc_words_in.nd rfl (.inl rfl) (pe_lst pa_nil))
 (pss_cons (ps_for (passes_of rfl) rfl (k_piL K rfl (pe_slice (k_sl K) (pv 0) (po_some (pv 4)) (po_some (pv 6)))) (pg_name (i := 7) sc_words_in.nd rfl (Or.inl rfl)) (pss_one (ps_expr (k_bm K rfl PySem.F.plainAttrs_list PySem.F.slot_list_extend PySem.F.type_list_extend mt_extend (pv 8) (pa_cons (pe_lc (own := [("word", 9)]) (g := _) (tt := _) (by rfl) sc_words_in.nd (k_piL K rfl (pe_split (pe_slice (k_sl K) (pv 7) (po_some (pv 3)) (po_some (pv 5))) pe_str)) (blkOk_by (N := N_words_in) (sc := defScope s_words_in) (by decide +kernel)) (fun _ _ _ _ _ => (pg_name (i := 9) sc_words_in.nd rfl (Or.inl rfl))) (fun _ _ _ _ _ => (pts_one (pt_cmpR (k_neD K rfl hr.units) (pv 9) pe_str (nomark _)))) (fun _ _ _ _ _ => (pv 9))) pa_nil)))))
 (pss_one (ps_expr (k_bm K rfl PySem.F.plainAttrs_list PySem.F.slot_list_append PySem.F.type_list_append mt_append (pv 2) (pa_cons (pv 8) pa_nil))))))))
 (pss_one (ps_ret (pv 2))))), rd_of h fun B ls Po Pe hB hG hE => ?_⟩)
  obtain ⟨wd, hg, rs, bs, rfl, ⟨R, hwd, hhg1, hhg, hbs⟩, q1, q2⟩ := hG
  show WS B K _ [some (.d (.list (rs.map .str))), some (.d (.list (bs.map boxD))), none, none, none, none, none, none, none, none] _
  walk_at "sv"
  refine ws_deep (j := 2) rfl (np_of hB (by decide)) fun p0 => ?_
  refine ws_forL boxD ?_
  walk_at "sv"
  refine ⟨fun pre ρ => (∀ b, b ∈ pre → InBx wd hg b) ∧ ∃ as o3 o4 o5 o6 o7 o8 o9, as.length = pre.length ∧ ρ = [some (.d (.list (rs.map .str))), some (.d (.list (bs.map boxD))), some (.deep (.lst p0 (kidsOf as (pre.map (boxWords rs))))), o3, o4, o5, o6, o7, o8, o9], ⟨(fun b h => nomatch h), [], _, _, _, _, _, _, _, rfl, rfl⟩, fun pre a post ρ2 ha hI => ?_, fun ρ2 hI => ?_⟩
  · obtain ⟨hin, as, o3, o4, o5, o6, o7, o8, o9, has, rfl⟩ := hI
    have hma : a ∈ bs := by rw [ha]; simp
    have bad : ¬ InBx wd hg a → Pe T.a_NoPlace := fun h => q2 ⟨a, hma, h⟩
    show WG B K _ (.tuple [.int a.1, .int a.2.1, .int a.2.2.1, .int a.2.2.2]) _ _
    walk_at "sv"
    · exact ws_raise (hE _ (bad fun g => absurd g.hl (by omega)))
    · exact ws_raise (hE _ (bad fun g => absurd g.ht (by omega)))
    · exact ws_raise (hE _ (bad fun g => absurd g.hb (by have := R.len; omega)))
    refine wd_minL ?_
    refine wd_e (we_lcL PyData.str (fun (x : Str) o => o = some (.int (x.length : Int))) (.name 7) ?_)
    have hrl := R.len
    walk_at "sv"
    refine ⟨fun r hr B' hB' => ?_, fun ys hy => ?_⟩
    · walk_at "sv"
      exact ⟨by have := R.wid r hr; show _ ≤ 1000000; omega, rfl⟩
    have e := Sel.map (f := fun x : Str => PyData.int (x.length : Int)) hy
    subst e
    refine ⟨_, rfl, rs.map (fun x => (x.length : Int)), by rw [List.map_map]; rfl, by rw [List.length_map]; omega, fun m hm _ => ?_⟩
    have hmw : m = wd := by
      obtain ⟨r, hr, rfl⟩ := List.mem_map.mp hm
      rw [R.wid r hr]
    subst hmw
    walk_at "sv"
    · exact ws_raise (hE _ (bad fun g => absurd g.hr (by omega)))
    have gin : InBx wd hg a := ⟨by omega, by omega, by omega, by omega⟩
    refine ws_forL PyData.str ?_
    walk_at "sv"
    rw [cutD_map]
    refine ⟨cutD rs (some a.2.1) (some a.2.2.2), rfl, ?_⟩
    let wl : Str → List Str := fun r => rowWords (tl (cutS r (some a.1) (some a.2.2.1)))
    have wl_len : ∀ r, r ∈ rs → (wl r).length ≤ 401 := fun r hr => by
      have k := rowWords_len (tl (cutS r (some a.1) (some a.2.2.1)))
      rw [len_tl] at k
      have k2 := cutS_length r (some a.1) (some a.2.2.1)
      have k3 := R.wid r hr
      show (rowWords _).length ≤ 401
      omega
    have hcm : ∀ r, r ∈ cutD rs (some a.2.1) (some a.2.2.2) → r ∈ rs := fun r hr => List.mem_of_mem_drop (List.mem_of_mem_take hr)
    have hcl := cutD_len rs (some a.2.1) (some a.2.2.2)
    refine ⟨fun pre2 ρ => ∃ o7 o9, (pre2.flatMap wl).length ≤ 401 * pre2.length ∧ ρ = [some (.d (.list (rs.map .str))), some (.d (.list (bs.map boxD))), some (.deep (.lst p0 (kidsOf as (pre.map (boxWords rs))))), some (.d (.int a.1)), some (.d (.int a.2.1)), some (.d (.int a.2.2.1)), some (.d (.int a.2.2.2)), o7, some (.own ((pre2.flatMap wl).map .str)), o9], ⟨_, _, Nat.le_refl _, rfl⟩, fun pre2 a2 post2 ρ2 ha2 hI => ?_, fun ρ2 hI => ?_⟩
    · obtain ⟨o7, o9, hl2, rfl⟩ := hI
      have hpl := congrArg List.length ha2
      rw [List.length_append, List.length_cons] at hpl
      have ha2m := hcm a2 (by rw [ha2]; simp)
      have hw2 := wl_len a2 ha2m
      have ha2o := R.ok a2 ha2m
      have ha2w := R.wid a2 ha2m
      have hcut := cutS_length a2 (some a.1) (some a.2.2.1)
      have hspl := split_len (cutS a2 (some a.1) (some a.2.2.1))
      walk_at "sv"
      refine wd_e (we_lcL PyData.str (fun (x : Str) o => o = if decide (x ≠ Str.empty) = true then some (.str x) else none) (.name 9) ?_)
      walk_at "sv"
      refine ⟨⟨by decide +kernel, by show (cutS a2 (some a.1) (some a.2.2.1)).length < 1000000; omega⟩, _, rfl, Txt.split (cutS a2 (some a.1) (some a.2.2.1)) spS, rfl, by show _ ≤ 1000000; omega, fun x hx B' hB' => ?_, fun ys hy => ?_⟩
      · have okx : OkD 60 (.str x) := OkD.str (split_ok (strOk_cut ha2o) x hx)
        have oem : OkD 60 (.str (Str.ofString "")) := OkD.str (by decide +kernel)
        walk_at "sv"
        · exact (if_neg (by rw [decide_eq_true_eq]; exact fun z => z (show x = Str.empty from hc))).symm
        · exact (if_pos (decide_eq_true (show x ≠ Str.empty from hc))).symm
      · have e := Sel.filter (f := PyData.str) (p := fun x : Str => decide (x ≠ Str.empty)) hy
        rw [split_words] at e
        subst e
        refine ⟨_, rfl, _, _, rfl, rfl, ?_, some (.d (.str a2)), o9, ?_, ?_⟩
        · rw [List.length_map, List.length_map]
          show _ + (wl a2).length ≤ 1000000
          omega
        · rw [List.flatMap_append, List.length_append, List.length_append]
          show _ + (wl a2 ++ []).length ≤ 401 * (pre2.length + 1)
          rw [List.append_nil]
          omega
        · rw [List.flatMap_append, List.map_append (l₁ := pre2.flatMap wl)]
          show _ = [_, _, _, _, _, _, _, _, some (L.own (_ ++ (wl a2 ++ []).map .str)), _]
          rw [List.append_nil]
          rfl
    · obtain ⟨o7, o9, hl2, rfl⟩ := hI
      walk_at "sv"
      intro b9
      have hkl := kids_len (as := as) (told := pre.map (boxWords rs)) (by rw [has, List.length_map])
      have hpl : pre.length ≤ 1000 := by
        have := congrArg List.length ha
        rw [List.length_append] at this
        omega
      rw [List.length_map] at hkl
      refine ⟨_, rfl, by show _ < 1000000; omega, ?_⟩
      walk_at "sv"
      refine ⟨fun b hb => ?_, as ++ [b9], some (.d (.int a.1)), some (.d (.int a.2.1)), some (.d (.int a.2.2.1)), some (.d (.int a.2.2.2)), o7, none, o9, by rw [List.length_append, List.length_append, has]; rfl, ?_⟩
      · rcases List.mem_append.mp hb with h | h
        · exact hin b h
        · rw [List.mem_singleton.mp h]; exact gin
      · rw [List.map_append, List.map_cons, List.map_nil, kids_snoc (by rw [has, List.length_map])]
        rfl
  · obtain ⟨hin, as, o3, o4, o5, o6, o7, o8, o9, has, rfl⟩ := hI
    walk_at "sv"
    exact q1 hin p0 as has

/-! ### _law_refused: NoPlace, and none of the others -/
def G_law_refused : GF := fun ls Po _ => ∃ (wd hg : Nat) (rs : List Str) (bs : List Bx), ls = [.d (.list (rs.map .str)), .d (.list (bs.map boxD))] ∧ (RowsOk wd hg rs ∧ wd ≤ 400 ∧ 1 ≤ hg ∧ hg ≤ 400 ∧ bs.length ≤ 1000 ∧ ∃ b, b ∈ bs ∧ ¬ InBx wd hg b) ∧ Po (.d (.bool true)) []
theorem ok_law_refused (T : Txt K mg) : FnOk P w K mg base CX0 2 T.f_law_refused T.fd_law_refused ["rows", "boxes"] (SpG K none G_law_refused) := by
  refine T.d_law_refused.F.ok sc_law_refused (SpG.len (n := 2) fun ls Po Pe h => by obtain ⟨_, _, _, _, rfl, _⟩ := h; rfl) (fun cdv A outer s H vs Q E hr h => ⟨_, (pss_cons (ps_setO (i := 2) sc_law_refused.nd rfl (.inl rfl) (pe_lst pa_nil))
 (pss_cons (k_try (i := 3) (tb := _) (ts := _) K rfl rfl rfl sc_law_refused.nd rfl rfl ⟨rfl, by decide, .inl T.PartError.g⟩
 (fun W pn xe tk _ => (pss_one (ps_expr (by exact (pe_callS (ok_words_in T) hr rfl T.d_words_in.g T.d_words_in.kp T.d_words_in.b (fun σ => passAt tk σ) (by exact (pa_cons (pv 0) (pa_cons (pv 1) pa_nil))))))))
 (fun a oe cls d pn hz hf => (pss_cons (ps_setO (i := 2) sc_law_refused.nd rfl (.inl rfl) (pe_lst (pa_cons (pe_callB (k_isx K hz hf) (by rfl) T.b_isinstance (by decide +kernel) (pa_cons (pv 3) (pa_cons (pe_glob (v := .ref T.a_NoPlace) rfl T.NoPlace.g rfl) pa_nil))) (pa_cons (pe_callB (k_isx K hz hf) (by rfl) T.b_isinstance (by decide +kernel) (pa_cons (pv 3) (pa_cons (pe_bltn (v := .ty "ValueError") (by rfl) T.b_ValueError (by decide +kernel) rfl) pa_nil))) pa_nil))))
 (pss_cons (ps_expr (k_bm K rfl PySem.F.plainAttrs_list PySem.F.slot_list_append PySem.F.type_list_append mt_append (pv 2) (pa_cons (pe_callB (k_isxT K hz hf) (by rfl) T.b_isinstance (by decide +kernel) (pa_cons (pv 3) (pa_cons (pe_tup (pa_cons (pe_glob (v := .ref T.a_NoPicture) rfl T.NoPicture.g rfl) (pa_cons (pe_glob (v := .ref T.a_NoPage) rfl T.NoPage.g rfl) (pa_cons (pe_glob (v := .ref T.a_NoTree) rfl T.NoTree.g rfl) (pa_cons (pe_glob (v := .ref T.a_NoNeeds) rfl T.NoNeeds.g rfl) pa_nil))))) pa_nil))) pa_nil)))
 (pss_one (ps_expr (k_bm K rfl PySem.F.plainAttrs_list PySem.F.slot_list_append PySem.F.type_list_append mt_append (pv 2) (pa_cons (pe_callB (k_isxT K hz hf) (by rfl) T.b_isinstance (by decide +kernel) (pa_cons (pv 3) (pa_cons (pe_tup (pa_cons (pe_glob (v := .ref T.a_NoTexts) rfl T.NoTexts.g rfl) (pa_cons (pe_glob (v := .ref T.a_NoRoom) rfl T.NoRoom.g rfl) (pa_cons (pe_glob (v := .ref T.a_NoRow) rfl T.NoRow.g rfl) (pa_cons (pe_glob (v := .ref T.a_NoNumber) rfl T.NoNumber.g rfl) pa_nil))))) pa_nil))) pa_nil))))))))
 (pss_one (ps_ret (pe_cmpR (k_eqD K rfl hr.units) (pv 2) (pe_lst (pa_cons pe_bl (pa_cons pe_bl (pa_cons pe_bl (pa_cons pe_bl pa_nil))))) (nomark _)))))), rd_of h fun B ls Po Pe hB hG hE => ?_⟩)
  obtain ⟨wd, hg, rs, bs, rfl, ⟨R, h1, h2, h3, h4, hb⟩, q⟩ := hG
  show WS B K _ [some (.d (.list (rs.map .str))), some (.d (.list (bs.map boxD))), none, none] _
  walk_at "sv"
  refine ws_try (np_of (by assumption) (by decide)) (fun C ρ1 => C = T.a_NoPlace ∧ ρ1 = [some (.d (.list (rs.map .str))), some (.d (.list (bs.map boxD))), some (.own []), none]) (fun F0 W hS => ?_) (fun F0 C ρ1 hC => ?_)
  · walk_at "sv"
    exact ⟨_, fun C => C = T.a_NoPlace, rfl, ⟨wd, hg, rs, bs, rfl, ⟨R, h1, h2, h3, h4⟩, fun hall => absurd hb fun ⟨b, hb, hn⟩ => hn (hall b hb), fun _ => rfl⟩, fun C hC => hS _ _ ⟨hC, rfl⟩⟩
  · obtain ⟨rfl, rfl⟩ := hC
    refine ⟨T.m_NoPlace_PartError, fun a => ?_⟩
    have f1 := T.e_NoPlace
    have f2 := T.i_NoPlace_NoPlace
    have f3 := T.i_NoPlace_ValueError
    have f4 := T.j_NoPlace_0
    have f5 := T.j_NoPlace_1
    walk_at "sv"
    exact q

/-! ### the law -/
open TL (tl)
theorem flatMap_len_le {α β : Type} {f : α → List β} {c : Nat} : ∀ {l : List α}, (∀ x, x ∈ l → (f x).length ≤ c) → (l.flatMap f).length ≤ c * l.length
  | [], _ => Nat.zero_le _
  | x :: l, h => by
    have ih := flatMap_len_le (l := l) fun y hy => h y (List.mem_cons_of_mem _ hy)
    have k := h x List.mem_cons_self
    rw [List.flatMap_cons, List.length_append, List.length_cons, Nat.mul_succ]
    omega
theorem ok_law (T : Txt K mg) : FnOk P w K mg base CX0 4 T.f_law T.fd_law ["script"] (SpG K none G_law) := by
  refine T.d_law.F.ok sc_law (SpG.len (n := 1) fun ls Po Pe h => by obtain ⟨_, rfl, _⟩ := h; rfl) (fun cdv A outer s H vs Q E hr h => ⟨_, (pss_cons (ps_set (i := 1) sc_law.nd rfl (.inr rfl) (pe_op (k_plus K) pe_int (pe_op op_modN (pe_call (ok_law_cell T) (hr.mono (by decide)) (by rfl) T.d_law_cell.g T.d_law_cell.kp T.d_law_cell.b .nil pass0 (pa_cons (pv 0) (pa_cons pe_int pa_nil))) pe_int)))
 (pss_cons (ps_set (i := 2) sc_law.nd rfl (.inr rfl) (pe_op (k_plus K) pe_int (pe_op op_modN (pe_call (ok_law_cell T) (hr.mono (by decide)) (by rfl) T.d_law_cell.g T.d_law_cell.kp T.d_law_cell.b .nil pass0 (pa_cons (pv 0) (pa_cons pe_int pa_nil))) pe_int)))
 (pss_cons (ps_set (i := 3) sc_law.nd rfl (.inr rfl) (pe_call (ok_law_rows T) hr (by rfl) T.d_law_rows.g T.d_law_rows.kp T.d_law_rows.b .nil pass0 (pa_cons (pv 0) (pa_cons (pv 1) (pa_cons (pv 2) pa_nil)))))
 (pss_cons (ps_setLc (i := 4) (own := [("k", 5)]) (g := _) (tt := _) rfl sc_law.nd rfl rfl (sw_true rfl rfl rfl (by decide +kernel)) (pi_range1 (by rfl) T.b_range (pa_cons (pe_op op_modN (pe_call (ok_law_cell T) (hr.mono (by decide)) (by rfl) T.d_law_cell.g T.d_law_cell.kp T.d_law_cell.b .nil pass0 (pa_cons (pv 0) (pa_cons pe_int pa_nil))) pe_int) pa_nil)) (blkOk_by (N := N_law) (sc := defScope s_law) (by decide +kernel)) (fun _ _ _ _ _ => (pg_name (i := 5) sc_law.nd rfl (Or.inl rfl))) (fun _ _ _ _ _ => pts_nil) (fun _ _ _ _ _ => (pe_call (ok_law_box T) (hr.mono (by decide)) (by rfl) T.d_law_box.g T.d_law_box.kp T.d_law_box.b .nil pass0 (pa_cons (pe_call (ok_law_cell T) (hr.mono (by decide)) (by rfl) T.d_law_cell.g T.d_law_cell.kp T.d_law_cell.b .nil pass0 (pa_cons (pv 0) (pa_cons (pe_op (k_plus K) pe_int (pv 5)) pa_nil))) (pa_cons (pv 1) (pa_cons (pv 2) pa_nil))))))
 (pss_cons (ps_setLc (i := 6) (own := [("box", 7)]) (g := _) (tt := _) rfl sc_law.nd rfl rfl (sw_true rfl rfl rfl (by decide +kernel)) (k_piL K rfl (pv 4)) (blkOk_by (N := N_law) (sc := defScope s_law) (by decide +kernel)) (fun _ _ _ _ _ => (pg_name (i := 7) sc_law.nd rfl (Or.inl rfl))) (fun _ _ _ _ _ => pts_nil) (fun _ _ _ _ _ => (pe_call (ok_law_words T) (hr.mono (by decide)) (by rfl) T.d_law_words.g T.d_law_words.kp T.d_law_words.b .nil pass0 (pa_cons (pv 3) (pa_cons (pv 7) pa_nil)))))
 (pss_cons (ps_set (i := 8) sc_law.nd rfl (.inl rfl) (pe_lst (pa_cons (pe_callTy (k_listOf K) (by rfl) T.b_list (by decide +kernel) (pa_cons (pv 3) pa_nil)) (pa_cons (pe_callTy (k_listOf K) (by rfl) T.b_list (by decide +kernel) (pa_cons (pv 4) pa_nil)) pa_nil))))
 (pss_cons (ps_setO (i := 9) sc_law.nd rfl (.inl rfl) (pe_call (ok_words_in T) (hr.mono (by decide)) (by rfl) T.d_words_in.g T.d_words_in.kp T.d_words_in.b .nil passL (pa_cons (pe_ix (k_ix K) (pv 8) pe_int (fun _ _ => rfl)) (pa_cons (pe_ix (k_ix K) (pv 8) pe_int (fun _ _ => rfl)) pa_nil))))
 (pss_cons (ps_if (PW.pt (pw_or (pt_not (pt_val (pe_callB (k_isi K) (by rfl) T.b_isinstance (by decide +kernel) (pa_cons (pv 9) (pa_cons (pe_bltn (v := .ty "list") (by rfl) T.b_list (by decide +kernel) rfl) pa_nil))))) (pw_or (pt_cmpR (k_neD K rfl hr.units) (pv 9) (pv 6) (nomark _)) (pw_or1 (pt_cmpR (k_neD K rfl hr.units) (pv 8) (pe_lst (pa_cons (pv 3) (pa_cons (pv 4) pa_nil))) (nomark _)))))) (pss_one (ps_ret pe_bl)) pss_nil)
 (pss_cons (ps_for PassesOwn.never rfl (k_piL K rfl (pv 9)) (pg_name (i := 10) sc_law.nd rfl (Or.inl rfl)) (pss_one (ps_if (pt_not (pt_val (pe_callB (k_isi K) (by rfl) T.b_isinstance (by decide +kernel) (pa_cons (pv 10) (pa_cons (pe_bltn (v := .ty "list") (by rfl) T.b_list (by decide +kernel) rfl) pa_nil))))) (pss_one (ps_ret pe_bl)) pss_nil)))
 (pss_cons (ps_if (pt_cmpR op_gt (pe_callB (k_len K) (by rfl) T.b_len PySem.boot_len (pa_cons (pv 9) pa_nil)) pe_int (nomark _)) (pss_cons (ps_expr (k_bm K rfl PySem.F.plainAttrs_list PySem.F.slot_list_append PySem.F.type_list_append mt_append (pe_ix (k_ix K) (pv 9) pe_int (fun _ _ => rfl)) (pa_cons pe_str pa_nil)))
 (pss_one (ps_if (pt_cmpR (k_neD K rfl hr.units) (pe_slice (k_sl K) (pv 9) (po_some pe_int) po_none) (pe_slice (k_sl K) (pv 6) (po_some pe_int) po_none) (nomark _)) (pss_one (ps_ret pe_bl)) pss_nil))) pss_nil)
 (pss_cons (ps_set (i := 11) sc_law.nd rfl (.inl rfl) (pe_op op_modN (pe_op op_fdivN (pe_call (ok_law_cell T) (hr.mono (by decide)) (by rfl) T.d_law_cell.g T.d_law_cell.kp T.d_law_cell.b .nil pass0 (pa_cons (pv 0) (pa_cons pe_int pa_nil))) pe_int) pe_int))
 (pss_cons (ps_asg (pe_call (ok_law_box T) (hr.mono (by decide)) (by rfl) T.d_law_box.g T.d_law_box.kp T.d_law_box.b .nil pass0 (pa_cons (pe_call (ok_law_cell T) (hr.mono (by decide)) (by rfl) T.d_law_cell.g T.d_law_cell.kp T.d_law_cell.b .nil pass0 (pa_cons (pv 0) (pa_cons pe_int pa_nil))) (pa_cons (pv 1) (pa_cons (pv 2) pa_nil)))) (k_gTup K rfl rfl (pgs_cons (pg_name (i := 12) sc_law.nd rfl (Or.inl rfl)) (pgs_cons (pg_name (i := 13) sc_law.nd rfl (Or.inl rfl)) (pgs_cons (pg_name (i := 14) sc_law.nd rfl (Or.inl rfl)) (pgs_cons (pg_name (i := 15) sc_law.nd rfl (Or.inl rfl)) pgs_nil))))))
 (pss_cons (ps_set (i := 16) sc_law.nd rfl (.inl rfl) (pe_lst (pa_cons (pe_tup (pa_cons (pv 12) (pa_cons (pv 13) (pa_cons (pe_op (k_plus K) (pe_op (k_plus K) (pv 1) pe_int) (pv 11)) (pa_cons (pv 15) pa_nil))))) (pa_cons (pe_tup (pa_cons (pv 12) (pa_cons (pv 13) (pa_cons (pv 14) (pa_cons (pe_op (k_plus K) (pe_op (k_plus K) (pv 2) pe_int) (pv 11)) pa_nil))))) (pa_cons (pe_tup (pa_cons (pe_op op_sub (pe_un un_neg pe_int) (pv 11)) (pa_cons (pv 13) (pa_cons (pv 14) (pa_cons (pv 15) pa_nil))))) pa_nil)))))
 (pss_cons (ps_set (i := 16) sc_law.nd rfl (.inl rfl) (pe_op (k_plus K) (pv 16) (pe_lst (pa_cons (pe_tup (pa_cons (pv 12) (pa_cons (pe_op op_sub (pe_un un_neg pe_int) (pv 11)) (pa_cons (pv 14) (pa_cons (pv 15) pa_nil))))) (pa_cons (pe_tup (pa_cons (pe_op (k_plus K) (pv 1) (pv 11)) (pa_cons (pv 13) (pa_cons (pe_op (k_plus K) (pe_op (k_plus K) (pv 1) (pv 11)) pe_int) (pa_cons (pv 15) pa_nil))))) pa_nil)))))
 (pss_cons (ps_set (i := 17) sc_law.nd rfl (.inl rfl) (pe_op op_modN (pv 11) (pe_op (k_plus K) (pe_callB (k_len K) (by rfl) T.b_len PySem.boot_len (pa_cons (pv 4) pa_nil)) pe_int)))
 (pss_cons (ps_for PassesOwn.never rfl (k_piL K rfl (pv 16)) (pg_name (i := 7) sc_law.nd rfl (Or.inl rfl)) (pss_one (ps_if (pt_not (pt_val (pe_call (ok_law_refused T) (hr.mono (by decide)) (by rfl) T.d_law_refused.g T.d_law_refused.kp T.d_law_refused.b .nil pass0 (pa_cons (pv 3) (pa_cons (pe_op (k_plus K) (pe_op (k_plus K) (pe_slice (k_sl K) (pv 4) po_none (po_some (pv 17))) (pe_lst (pa_cons (pv 7) pa_nil))) (pe_slice (k_sl K) (pv 4) (po_some (pv 17)) po_none)) pa_nil))))) (pss_one (ps_ret pe_bl)) pss_nil)))
 (pss_one (ps_ret (pe_and (pe_cmpR (k_eqD K rfl hr.units) (pe_call (ok_words_in T) (hr.mono (by decide)) (by rfl) T.d_words_in.g T.d_words_in.kp T.d_words_in.b .nil passL (pa_cons (pv 3) (pa_cons (pe_lst pa_nil) pa_nil))) (pe_lst pa_nil) (nomark _)) (pe_one (pe_cmpR (k_eqD K rfl hr.units) (pe_call (ok_words_in T) (hr.mono (by decide)) (by rfl) T.d_words_in.g T.d_words_in.kp T.d_words_in.b .nil passL (pa_cons (pv 3) (pa_cons (pv 4) pa_nil))) (pv 6) (nomark _)))))))))))))))))))))), rd_of h fun B ls Po Pe hB hG hE => ?_⟩)
  obtain ⟨ns, rfl, hn, q⟩ := hG
  show WS B K _ [some (.scr ns), none, none, none, none, none, none, none, none, none, none, none, none, none, none, none, none, none] _
  walk_at "sn"
  refine ⟨ns, 0, rfl, by omega, fun z0 => ?_⟩
  walk_at "sn"
  refine ⟨ns, 1, rfl, by omega, fun z1 => ?_⟩
  walk_at "sn"
  obtain ⟨wd, ewd, w0, w1⟩ : ∃ n : Nat, 1 + z0 % 30 = (n : Int) ∧ 1 ≤ n ∧ n ≤ 30 := ⟨(1 + z0 % 30).toNat, by omega, by omega, by omega⟩
  obtain ⟨hg, ehg, g0, g1⟩ : ∃ n : Nat, 1 + z1 % 12 = (n : Int) ∧ 1 ≤ n ∧ n ≤ 12 := ⟨(1 + z1 % 12).toNat, by omega, by omega, by omega⟩
  refine ⟨ns, wd, hg, by rw [ewd, ehg], ⟨by omega, by omega, by omega⟩, fun rs R => ⟨_, rfl, ?_⟩⟩
  rw [ewd, ehg]
  clear ewd ehg
  walk_at "sn"
  refine wd_e (we_lc1 (fun (_ : Int) o => ∃ b : Bx, GoodBx wd hg b ∧ o = some (boxD b)) (.name 5) ?_)
  walk_at "sn"
  refine ⟨ns, 2, rfl, by omega, fun z2 => ?_⟩
  walk_at "sn"
  refine ⟨fun k hk B' hB' => ?_, fun ys hy => ?_⟩
  · obtain ⟨k0, k1⟩ := ixs_mem hk
    walk_at "sn"
    refine ⟨ns, 3 + k, rfl, ⟨by omega, by omega, hn⟩, fun z => ?_⟩
    walk_at "sn"
    exact ⟨z, wd, hg, rfl, ⟨by omega, by omega, by omega, by omega⟩, fun b hb => ⟨_, rfl, b, hb, rfl⟩⟩
  obtain ⟨bs, rfl, hbs, hbl⟩ := Sel.pick hy
  rw [ixs_len] at hbl
  walk_at "sn"
  refine wd_e (we_lcL boxD (fun (b : Bx) o => o = some (strsD (boxWords rs b))) (.name 7) ?_)
  walk_at "sn"
  refine ⟨fun b hb B' hB' => ?_, fun ys hy => ?_⟩
  · walk_at "sn"
    exact ⟨wd, hg, rs, b, rfl, ⟨R, hbs b hb, by omega, by omega⟩, _, rfl, rfl⟩
  have e := Sel.map (f := fun b : Bx => strsD (boxWords rs b)) hy
  subst e
  walk_at "sn"
  refine ⟨wd, hg, rs, bs, rfl, ⟨R, by omega, by omega, by omega, by omega⟩, fun _ p as has => ⟨_, rfl, ?_⟩, fun ⟨b, hb, hnb⟩ => absurd (hbs b hb).toInBx hnb⟩
  let due : List (List Str) := bs.map (boxWords rs)
  have hdl : due.length = bs.length := List.length_map ..
  have hkd := kids_D (p := p) (as := as) (told := due) (by rw [hdl]; exact has)
  have due_ok : ∀ f, f ∈ due → ∀ v, v ∈ f → PyData.strOk v = true := fun f hf v hv => by
    obtain ⟨b, _, rfl⟩ := List.mem_map.mp hf
    obtain ⟨r, hr, hv2⟩ := List.mem_flatMap.mp hv
    have hrm := cutD_in hr
    exact (rowWords_ok (fun c hc => strOk_all.mp (strOk_cut (R.ok r hrm)) c hc) v hv2).1
  have edue : bs.map (fun b => strsD (boxWords rs b)) = due.map strsD := by rw [List.map_map]; rfl
  rw [edue]
  have odue : OkD 60 (.list (due.map strsD)) := strss_ok due_ok
  have ndue : noB (.list (due.map strsD)) = true := noB_strss due
  have orows : OkD 58 (.list (rs.map .str)) := OkD.strs R.ok
  have oboth : OkD 60 (.list [.list (rs.map .str), .list (bs.map boxD)]) := .list fun x hx => by
    simp only [List.mem_cons, List.not_mem_nil, or_false] at hx
    rcases hx with rfl | rfl
    · exact OkD.strs R.ok
    · exact boxes_ok bs
  have nboth : noB (.list [.list (rs.map .str), .list (bs.map boxD)]) = true := by
    show (noB (.list (rs.map .str)) && (noB (.list (bs.map boxD)) && true)) = true
    rw [noB_strs, noB_boxes]
    rfl
  have hdd : (OT.lst p (kidsOf as (bs.map (boxWords rs)))).data = .list (due.map strsD) := hkd.2
  walk_at "sv"
  refine ⟨hkd.1, ?_⟩
  rw [hdd]
  walk_at "sv"
  rotate_left
  · exact absurd rfl hc
  · exact absurd rfl hc
  refine ws_forP (np_of hB (by decide)) rfl (fun pre ρ' => ∃ o, ρ' = [some (.scr ns), some (.d (.int wd)), some (.d (.int hg)), some (.d (.list (rs.map .str))), some (.d (.list (bs.map boxD))), none, some (.d (.list (due.map strsD))), none, some (.d (.list [.list (rs.map .str), .list (bs.map boxD)])), some (.deep (.lst p (kidsOf as due))), o, none, none, none, none, none, none, none]) (fun pre ρ' hI => by obtain ⟨o, rfl⟩ := hI; rfl) ⟨_, rfl⟩ (fun pre u post ρ2 l hu hI hl => ?_) fun ρ2 hI => ?_
  · obtain ⟨o, rfl⟩ := hI
    have hat : (kidsOf as due)[pre.length]? = some u := by rw [hu, List.getElem?_append_right (Nat.le_refl _), Nat.sub_self]; rfl
    obtain ⟨b, f, _, rfl⟩ := kids_at hat
    cases hl
    refine ws_if (wt_not (wt_B (wd_isiPl (we_rawv rfl ⟨b, rfl, ⟨9, _, [pre.length], (f.map .str).map .d, rfl, ?_⟩, ⟨_, rfl, ?_⟩⟩))))
    · show (match (kidsOf as due)[pre.length]? with | some u => OT.at [] u | none => none) = _
      rw [hat]
      rfl
    · walk_at "sv"
      exact ⟨_, rfl⟩
  obtain ⟨o, rfl⟩ := hI
  walk_at "sn"
  refine ws_cut (fun ρ' => ∃ o9, ρ' = [some (.scr ns), some (.d (.int wd)), some (.d (.int hg)), some (.d (.list (rs.map .str))), some (.d (.list (bs.map boxD))), none, some (.d (.list (due.map strsD))), none, some (.d (.list [.list (rs.map .str), .list (bs.map boxD)])), o9, o, none, none, none, none, none, none, none]) ?_ fun ρ' hI => ?_
  · walk_at "sv"
    · have hlen := kids_len (as := as) (told := due) (by rw [hdl]; exact has)
      obtain ⟨f0, D, eD⟩ : ∃ f0 D, due = f0 :: D := by
        cases hd : due with
        | nil => rw [hlen, hd] at hc; simp at hc
        | cons f0 D => exact ⟨f0, D, rfl⟩
      obtain ⟨a0, A', eA⟩ : ∃ a0 A', as = a0 :: A' := by
        cases ha : as with
        | nil => rw [ha, ← hdl, eD] at has; simp at has
        | cons a0 A' => exact ⟨a0, A', rfl⟩
      have ek : kidsOf as due = OStr a0 f0 :: kidsOf A' D := by rw [eD, eA]; rfl
      have hl' : A'.length = D.length := by
        have e := has
        rw [← hdl, eD, eA] at e
        simpa using e
      obtain ⟨k1, k2⟩ := kids_data hl'
      have odD : OkD 60 (.list (D.map strsD)) := strss_ok fun f hf => due_ok f (by rw [eD]; exact List.mem_cons_of_mem _ hf)
      have hf0 : f0.length ≤ 100000 := by
        have hm : f0 ∈ due := by rw [eD]; exact List.mem_cons_self
        obtain ⟨b, hb, rfl⟩ := List.mem_map.mp hm
        have k := flatMap_len_le (c := 31) (f := fun r => rowWords (tl (cutS r (some b.1) (some b.2.2.1)))) (l := cutD rs (some b.2.1) (some b.2.2.2)) fun r hr => by
          have k1 := rowWords_len (tl (cutS r (some b.1) (some b.2.2.1)))
          rw [len_tl] at k1
          have k2 := cutS_length r (some b.1) (some b.2.2.1)
          have k3 := R.wid r (cutD_in hr)
          show (rowWords _).length ≤ 31
          omega
        have k2 := cutD_len rs (some b.2.1) (some b.2.2.2)
        have k3 := R.len
        show ((cutD rs (some b.2.1) (some b.2.2.2)).flatMap fun r => rowWords (tl (cutS r (some b.1) (some b.2.2.1)))).length ≤ 100000
        omega
      have at0 : atI (OStr a0 f0 :: kidsOf A' D) 0 = some (OStr a0 f0) := (atI_nat (j := 0) rfl : atI (OStr a0 f0 :: kidsOf A' D) ((0 : Nat) : Int) = some (OStr a0 f0))
      rw [ek]
      refine wd_e (we_appendP (we_ixP (we_ptr rfl ⟨p, rfl, wd_int ⟨9, _, [], OStr a0 f0 :: kidsOf A' D, 0, OStr a0 f0, rfl, rfl, .inl rfl, at0, a0, rfl, ⟨9, _, [0], _, rfl, rfl⟩, we_d (wd_str ⟨9, _, [0], _, np_of hB (by decide), rfl, rfl, ?_, ⟨_, rfl, ?_⟩⟩)⟩⟩)))
      · rw [List.length_map, List.length_map]
        show _ < 1000000
        omega
      have hput : OT.put [0] (.lst p (OStr a0 f0 :: kidsOf A' D)) (.lst a0 (((f0.map PyData.str).map OT.d) ++ [.d (.str (Str.ofString "a"))])) = .lst p (.lst a0 (((f0.map PyData.str).map OT.d) ++ [.d (.str (Str.ofString "a"))]) :: kidsOf A' D) := rfl
      rw [hput]
      walk_at "sv"
      have har : areD (OT.lst a0 (((f0.map PyData.str).map OT.d) ++ [.d (.str (Str.ofString "a"))]) :: kidsOf A' D) = true := by
        show (areD (((f0.map PyData.str).map OT.d) ++ [.d (.str (Str.ofString "a"))]) && areD (kidsOf A' D)) = true
        rw [areD_app, areD_map_d, k1]
        rfl
      refine ⟨har, ?_⟩
      have c1 : cutD (datas (OT.lst a0 (((f0.map PyData.str).map OT.d) ++ [.d (.str (Str.ofString "a"))]) :: kidsOf A' D)) (some 1) none = D.map strsD := by
        rw [show (1 : Int) = ((1 : Nat) : Int) from rfl, cutD_from (by rw [datas_len]; exact Nat.succ_le_succ (Nat.zero_le _))]
        exact k2
      have c2 : cutD (due.map strsD) (some 1) none = D.map strsD := by
        rw [show (1 : Int) = ((1 : Nat) : Int) from rfl, cutD_from (by rw [List.length_map, eD]; exact Nat.succ_le_succ (Nat.zero_le _)), eD]
        rfl
      rw [c1]
      walk_at "sv"
      rw [c2]
      have ndD : noB (.list (D.map strsD)) = true := noB_strss D
      refine ⟨rfl, ?_⟩
      walk_at "sv"
      · exact ⟨_, rfl⟩
      · exact absurd rfl hc
    · exact ⟨_, rfl⟩
  obtain ⟨o9, rfl⟩ := hI
  walk_at "sn"
  refine ⟨ns, 2, rfl, ⟨by omega, by omega, hn⟩, fun z3 => ?_⟩
  walk_at "sn"
  refine ⟨ns, 2, rfl, ⟨by omega, by omega, hn⟩, fun z4 => ?_⟩
  walk_at "sn"
  refine ⟨z4, wd, hg, rfl, ⟨by omega, by omega, by omega, by omega⟩, fun gb hgb => ?_⟩
  obtain ⟨gl, gt, gr, gbl⟩ := gb
  refine ⟨_, rfl, ?_⟩
  show WG B K _ (.tuple [.int gl, .int gt, .int gr, .int gbl]) _ _
  have f0 : 0 ≤ z3 / 25 % 400 := by omega
  have f1 : z3 / 25 % 400 < 400 := by omega
  generalize z3 / 25 % 400 = far at f0 f1
  walk_at "sn"
  · show 5 ≤ 1000000
    decide
  let bys : List Bx := [(gl, gt, (wd : Int) + 1 + far, gbl), (gl, gt, gr, (hg : Int) + 1 + far), (-1 - far, gt, gr, gbl), (gl, -1 - far, gr, gbl), ((wd : Int) + far, gt, (wd : Int) + far + 1, gbl)]
  have hbys : ∀ b, b ∈ bys → ¬ InBx wd hg b := fun b hb hi => by
    have k1 := hi.hl
    have k2 := hi.ht
    have k3 := hi.hr
    have k4 := hi.hb
    simp only [bys, List.mem_cons, List.not_mem_nil, or_false] at hb
    rcases hb with rfl | rfl | rfl | rfl | rfl <;> dsimp only at k1 k2 k3 k4 <;> omega
  refine ws_forL boxD (wd_var (x := .list (bys.map boxD)) rfl ⟨bys, rfl, ?_⟩)
  have a0 := Int.emod_nonneg far (show (bs.length : Int) + 1 ≠ 0 by omega)
  have a1 := Int.emod_lt_of_pos far (show 0 < (bs.length : Int) + 1 by omega)
  obtain ⟨m, em, hm⟩ : ∃ m : Nat, far % ((bs.length : Int) + 1) = (m : Int) ∧ m ≤ bs.length := ⟨(far % ((bs.length : Int) + 1)).toNat, by omega, by omega⟩
  rw [em]
  refine ⟨fun pre ρ' => ∃ o7, ρ' = [some (.scr ns), some (.d (.int wd)), some (.d (.int hg)), some (.d (.list (rs.map .str))), some (.d (.list (bs.map boxD))), none, some (.d (.list (due.map strsD))), o7, some (.d (.list [.list (rs.map .str), .list (bs.map boxD)])), o9, o, some (.d (.int far)), some (.d (.int gl)), some (.d (.int gt)), some (.d (.int gr)), some (.d (.int gbl)), some (.d (.list (bys.map boxD))), some (.d (.int m))], ⟨_, rfl⟩, fun pre b post ρ2 hb hI => ?_, fun ρ2 hI => ?_⟩
  · obtain ⟨o7, rfl⟩ := hI
    have hbm := hbys b (by rw [hb]; simp)
    have l1 := cutD_len (bs.map boxD) none (some (m : Int))
    have l2 := cutD_len (bs.map boxD) (some (m : Int)) none
    rw [List.length_map] at l1 l2
    walk_at "sv"
    · show _ + 1 ≤ 1000000
      omega
    · rw [List.length_append]
      show _ + 1 + _ ≤ 1000000
      omega
    have ebs : cutD (bs.map boxD) none (some (m : Int)) ++ [boxD b] ++ cutD (bs.map boxD) (some (m : Int)) none = (bs.take m ++ [b] ++ bs.drop m).map boxD := by
      rw [cutD_map, cutD_map, cutD_to hm, cutD_from hm, List.map_append, List.map_append]
      rfl
    refine ⟨wd, hg, rs, bs.take m ++ [b] ++ bs.drop m, by rw [ebs], ⟨R, by omega, by omega, by omega, ?_, b, by simp, hbm⟩, _, rfl, ?_⟩
    · rw [List.length_append, List.length_append, List.length_take, List.length_drop]
      show _ + 1 + _ ≤ 1000
      omega
    walk_at "sv"
    exact ⟨_, rfl⟩
  · obtain ⟨o7, rfl⟩ := hI
    walk_at "sv"
    refine ⟨wd, hg, rs, [], rfl, ⟨R, by omega, by omega, by omega, by decide⟩, fun _ p2 as2 has2 => ?_, fun ⟨b, hb, _⟩ => nomatch hb⟩
    have e2 : as2 = [] := List.eq_nil_of_length_eq_zero has2
    subst e2
    refine ⟨_, toD_deep rfl, ?_⟩
    show WD B K _ _ _
    walk_at "sv"
    have e0 : PyData.eqv (.list []) (.list []) = true := by decide +kernel
    have e1 : (OT.lst p2 (kidsOf [] (([] : List Bx).map (boxWords rs)))).data = .list [] := rfl
    rw [e1, e0]
    refine ⟨ok2 OkD.nil OkD.nil, _, rfl, fun _ => ?_, fun h => nomatch h⟩
    walk_at "sv"
    refine ⟨wd, hg, rs, bs, rfl, ⟨R, by omega, by omega, by omega, by omega⟩, fun _ p3 as3 has3 => ?_, fun ⟨b, hb, hnb⟩ => absurd (hbs b hb).toInBx hnb⟩
    have hkd3 := kids_D (p := p3) (as := as3) (told := due) (by rw [hdl]; exact has3)
    refine ⟨_, toD_deep hkd3.1, ?_⟩
    rw [show (OT.lst p3 (kidsOf as3 (bs.map (boxWords rs)))).data = .list (due.map strsD) from hkd3.2]
    walk_at "sv"
    have e3 : PyData.eqv (.list (due.map strsD)) (.list (due.map strsD)) = true := (eqv_iff ndue ndue).mpr rfl
    rw [e3]
    exact q


end
theorem all_mk {l : PySem.W.OpenLaw} {w : World} {K : Fr} {h : Heap} {mg : Str → Option Value} {fa : Addr} (X : K.In h) (G : h.Ns mainGlobals mg) (hfa : mg "law" = some (.ref fa))
    {a_PartError : Addr}
    {a_NoPage : Addr}
    {a_NoPicture : Addr}
    {a_NoPlace : Addr}
    {a_NoTree : Addr}
    {a_NoNeeds : Addr}
    {a_NoTexts : Addr}
    {a_NoRoom : Addr}
    {a_NoRow : Addr}
    {a_NoNumber : Addr}
    {f_words_in : Addr} {od_words_in an_words_in : Option Addr} {sl_words_in : Array (Option Value)} {oc_words_in kV_words_in dc_words_in pm_words_in cd_words_in ct_words_in : Value}
    {f_law_stir : Addr} {od_law_stir an_law_stir : Option Addr} {sl_law_stir : Array (Option Value)} {oc_law_stir kV_law_stir dc_law_stir pm_law_stir cd_law_stir ct_law_stir : Value}
    {f_law_cell : Addr} {od_law_cell an_law_cell : Option Addr} {sl_law_cell : Array (Option Value)} {oc_law_cell kV_law_cell dc_law_cell pm_law_cell cd_law_cell ct_law_cell : Value}
    {f_law_word : Addr} {od_law_word an_law_word : Option Addr} {sl_law_word : Array (Option Value)} {oc_law_word kV_law_word dc_law_word pm_law_word cd_law_word ct_law_word : Value}
    {f_law_rows : Addr} {od_law_rows an_law_rows : Option Addr} {sl_law_rows : Array (Option Value)} {oc_law_rows kV_law_rows dc_law_rows pm_law_rows cd_law_rows ct_law_rows : Value}
    {f_law_box : Addr} {od_law_box an_law_box : Option Addr} {sl_law_box : Array (Option Value)} {oc_law_box kV_law_box dc_law_box pm_law_box cd_law_box ct_law_box : Value}
    {f_law_words : Addr} {od_law_words an_law_words : Option Addr} {sl_law_words : Array (Option Value)} {oc_law_words kV_law_words dc_law_words pm_law_words cd_law_words ct_law_words : Value}
    {f_law_refused : Addr} {od_law_refused an_law_refused : Option Addr} {sl_law_refused : Array (Option Value)} {oc_law_refused kV_law_refused dc_law_refused pm_law_refused cd_law_refused ct_law_refused : Value}
    {f_law : Addr} {od_law an_law : Option Addr} {sl_law : Array (Option Value)} {oc_law kV_law dc_law pm_law cd_law ct_law : Value}
    (z_ValueError : PySem.W.nsIn K mainGlobals "ValueError" = some none)
    (z_isinstance : PySem.W.nsIn K mainGlobals "isinstance" = some none)
    (z_len : PySem.W.nsIn K mainGlobals "len" = some none)
    (z_list : PySem.W.nsIn K mainGlobals "list" = some none)
    (z_min : PySem.W.nsIn K mainGlobals "min" = some none)
    (z_range : PySem.W.nsIn K mainGlobals "range" = some none)
    (n_PartError : PySem.W.nsIn K mainGlobals "PartError" = some (some (.ref a_PartError)))
    (x_PartError : PySem.W.excIn K a_PartError veX "ValueError.__new__" = true)
    (k_PartError : PySem.W.keepIn K (.ref a_PartError) = true)
    (s_PartError : PySem.W.subIn K (.ref a_PartError) (.type "BaseException") = some true)
    (y_PartError : PySem.W.typeIn K (.ref a_PartError) = some (.type "type"))
    (n_NoPage : PySem.W.nsIn K mainGlobals "NoPage" = some (some (.ref a_NoPage)))
    (x_NoPage : PySem.W.excIn K a_NoPage veX "ValueError.__new__" = true)
    (k_NoPage : PySem.W.keepIn K (.ref a_NoPage) = true)
    (s_NoPage : PySem.W.subIn K (.ref a_NoPage) (.type "BaseException") = some true)
    (y_NoPage : PySem.W.typeIn K (.ref a_NoPage) = some (.type "type"))
    (n_NoPicture : PySem.W.nsIn K mainGlobals "NoPicture" = some (some (.ref a_NoPicture)))
    (x_NoPicture : PySem.W.excIn K a_NoPicture veX "ValueError.__new__" = true)
    (k_NoPicture : PySem.W.keepIn K (.ref a_NoPicture) = true)
    (s_NoPicture : PySem.W.subIn K (.ref a_NoPicture) (.type "BaseException") = some true)
    (y_NoPicture : PySem.W.typeIn K (.ref a_NoPicture) = some (.type "type"))
    (n_NoPlace : PySem.W.nsIn K mainGlobals "NoPlace" = some (some (.ref a_NoPlace)))
    (x_NoPlace : PySem.W.excIn K a_NoPlace veX "ValueError.__new__" = true)
    (k_NoPlace : PySem.W.keepIn K (.ref a_NoPlace) = true)
    (s_NoPlace : PySem.W.subIn K (.ref a_NoPlace) (.type "BaseException") = some true)
    (y_NoPlace : PySem.W.typeIn K (.ref a_NoPlace) = some (.type "type"))
    (n_NoTree : PySem.W.nsIn K mainGlobals "NoTree" = some (some (.ref a_NoTree)))
    (x_NoTree : PySem.W.excIn K a_NoTree veX "ValueError.__new__" = true)
    (k_NoTree : PySem.W.keepIn K (.ref a_NoTree) = true)
    (s_NoTree : PySem.W.subIn K (.ref a_NoTree) (.type "BaseException") = some true)
    (y_NoTree : PySem.W.typeIn K (.ref a_NoTree) = some (.type "type"))
    (n_NoNeeds : PySem.W.nsIn K mainGlobals "NoNeeds" = some (some (.ref a_NoNeeds)))
    (x_NoNeeds : PySem.W.excIn K a_NoNeeds veX "ValueError.__new__" = true)
    (k_NoNeeds : PySem.W.keepIn K (.ref a_NoNeeds) = true)
    (s_NoNeeds : PySem.W.subIn K (.ref a_NoNeeds) (.type "BaseException") = some true)
    (y_NoNeeds : PySem.W.typeIn K (.ref a_NoNeeds) = some (.type "type"))
    (n_NoTexts : PySem.W.nsIn K mainGlobals "NoTexts" = some (some (.ref a_NoTexts)))
    (x_NoTexts : PySem.W.excIn K a_NoTexts veX "ValueError.__new__" = true)
    (k_NoTexts : PySem.W.keepIn K (.ref a_NoTexts) = true)
    (s_NoTexts : PySem.W.subIn K (.ref a_NoTexts) (.type "BaseException") = some true)
    (y_NoTexts : PySem.W.typeIn K (.ref a_NoTexts) = some (.type "type"))
    (n_NoRoom : PySem.W.nsIn K mainGlobals "NoRoom" = some (some (.ref a_NoRoom)))
    (x_NoRoom : PySem.W.excIn K a_NoRoom veX "ValueError.__new__" = true)
    (k_NoRoom : PySem.W.keepIn K (.ref a_NoRoom) = true)
    (s_NoRoom : PySem.W.subIn K (.ref a_NoRoom) (.type "BaseException") = some true)
    (y_NoRoom : PySem.W.typeIn K (.ref a_NoRoom) = some (.type "type"))
    (n_NoRow : PySem.W.nsIn K mainGlobals "NoRow" = some (some (.ref a_NoRow)))
    (x_NoRow : PySem.W.excIn K a_NoRow veX "ValueError.__new__" = true)
    (k_NoRow : PySem.W.keepIn K (.ref a_NoRow) = true)
    (s_NoRow : PySem.W.subIn K (.ref a_NoRow) (.type "BaseException") = some true)
    (y_NoRow : PySem.W.typeIn K (.ref a_NoRow) = some (.type "type"))
    (n_NoNumber : PySem.W.nsIn K mainGlobals "NoNumber" = some (some (.ref a_NoNumber)))
    (x_NoNumber : PySem.W.excIn K a_NoNumber veX "ValueError.__new__" = true)
    (k_NoNumber : PySem.W.keepIn K (.ref a_NoNumber) = true)
    (s_NoNumber : PySem.W.subIn K (.ref a_NoNumber) (.type "BaseException") = some true)
    (y_NoNumber : PySem.W.typeIn K (.ref a_NoNumber) = some (.type "type"))
    (n_words_in : PySem.W.nsIn K mainGlobals "words_in" = some (some (.ref f_words_in)))
    (l_words_in : K.lookup f_words_in = some ⟨oc_words_in, od_words_in, .func (PySem.W.fnOf "words_in" "words_in" (defArgs s_words_in) (defBody s_words_in) (defScope s_words_in) .none kV_words_in dc_words_in pm_words_in an_words_in cd_words_in ct_words_in), sl_words_in⟩)
    (c_words_in : PySem.W.codeIn K cd_words_in "words_in" = true)
    (k_words_in : PySem.W.keepIn K (.ref f_words_in) = true)
    (n_law_stir : PySem.W.nsIn K mainGlobals "_law_stir" = some (some (.ref f_law_stir)))
    (l_law_stir : K.lookup f_law_stir = some ⟨oc_law_stir, od_law_stir, .func (PySem.W.fnOf "_law_stir" "_law_stir" (defArgs s_law_stir) (defBody s_law_stir) (defScope s_law_stir) .none kV_law_stir dc_law_stir pm_law_stir an_law_stir cd_law_stir ct_law_stir), sl_law_stir⟩)
    (c_law_stir : PySem.W.codeIn K cd_law_stir "_law_stir" = true)
    (k_law_stir : PySem.W.keepIn K (.ref f_law_stir) = true)
    (n_law_cell : PySem.W.nsIn K mainGlobals "_law_cell" = some (some (.ref f_law_cell)))
    (l_law_cell : K.lookup f_law_cell = some ⟨oc_law_cell, od_law_cell, .func (PySem.W.fnOf "_law_cell" "_law_cell" (defArgs s_law_cell) (defBody s_law_cell) (defScope s_law_cell) .none kV_law_cell dc_law_cell pm_law_cell an_law_cell cd_law_cell ct_law_cell), sl_law_cell⟩)
    (c_law_cell : PySem.W.codeIn K cd_law_cell "_law_cell" = true)
    (k_law_cell : PySem.W.keepIn K (.ref f_law_cell) = true)
    (n_law_word : PySem.W.nsIn K mainGlobals "_law_word" = some (some (.ref f_law_word)))
    (l_law_word : K.lookup f_law_word = some ⟨oc_law_word, od_law_word, .func (PySem.W.fnOf "_law_word" "_law_word" (defArgs s_law_word) (defBody s_law_word) (defScope s_law_word) .none kV_law_word dc_law_word pm_law_word an_law_word cd_law_word ct_law_word), sl_law_word⟩)
    (c_law_word : PySem.W.codeIn K cd_law_word "_law_word" = true)
    (k_law_word : PySem.W.keepIn K (.ref f_law_word) = true)
    (n_law_rows : PySem.W.nsIn K mainGlobals "_law_rows" = some (some (.ref f_law_rows)))
    (l_law_rows : K.lookup f_law_rows = some ⟨oc_law_rows, od_law_rows, .func (PySem.W.fnOf "_law_rows" "_law_rows" (defArgs s_law_rows) (defBody s_law_rows) (defScope s_law_rows) .none kV_law_rows dc_law_rows pm_law_rows an_law_rows cd_law_rows ct_law_rows), sl_law_rows⟩)
    (c_law_rows : PySem.W.codeIn K cd_law_rows "_law_rows" = true)
    (k_law_rows : PySem.W.keepIn K (.ref f_law_rows) = true)
    (n_law_box : PySem.W.nsIn K mainGlobals "_law_box" = some (some (.ref f_law_box)))
    (l_law_box : K.lookup f_law_box = some ⟨oc_law_box, od_law_box, .func (PySem.W.fnOf "_law_box" "_law_box" (defArgs s_law_box) (defBody s_law_box) (defScope s_law_box) .none kV_law_box dc_law_box pm_law_box an_law_box cd_law_box ct_law_box), sl_law_box⟩)
    (c_law_box : PySem.W.codeIn K cd_law_box "_law_box" = true)
    (k_law_box : PySem.W.keepIn K (.ref f_law_box) = true)
    (n_law_words : PySem.W.nsIn K mainGlobals "_law_words" = some (some (.ref f_law_words)))
    (l_law_words : K.lookup f_law_words = some ⟨oc_law_words, od_law_words, .func (PySem.W.fnOf "_law_words" "_law_words" (defArgs s_law_words) (defBody s_law_words) (defScope s_law_words) .none kV_law_words dc_law_words pm_law_words an_law_words cd_law_words ct_law_words), sl_law_words⟩)
    (c_law_words : PySem.W.codeIn K cd_law_words "_law_words" = true)
    (k_law_words : PySem.W.keepIn K (.ref f_law_words) = true)
    (n_law_refused : PySem.W.nsIn K mainGlobals "_law_refused" = some (some (.ref f_law_refused)))
    (l_law_refused : K.lookup f_law_refused = some ⟨oc_law_refused, od_law_refused, .func (PySem.W.fnOf "_law_refused" "_law_refused" (defArgs s_law_refused) (defBody s_law_refused) (defScope s_law_refused) .none kV_law_refused dc_law_refused pm_law_refused an_law_refused cd_law_refused ct_law_refused), sl_law_refused⟩)
    (c_law_refused : PySem.W.codeIn K cd_law_refused "_law_refused" = true)
    (k_law_refused : PySem.W.keepIn K (.ref f_law_refused) = true)
    (n_law : PySem.W.nsIn K mainGlobals "law" = some (some (.ref f_law)))
    (l_law : K.lookup f_law = some ⟨oc_law, od_law, .func (PySem.W.fnOf "law" "law" (defArgs s_law) (defBody s_law) (defScope s_law) .none kV_law dc_law pm_law an_law cd_law ct_law), sl_law⟩)
    (c_law : PySem.W.codeIn K cd_law "law" = true)
    (k_law : PySem.W.keepIn K (.ref f_law) = true)
    (v_e_NoPlace : ExcC K a_NoPlace)
    (v_m_NoPlace_PartError : PySem.W.exmOne K (.ref a_NoPlace) (.ref a_PartError) = some true)
    (v_i_NoPlace_NoPlace : PySem.W.kitOne K (.ref a_NoPlace) (.ref a_NoPlace) = some true)
    (v_i_NoPlace_ValueError : PySem.W.kitOne K (.ref a_NoPlace) (.type "ValueError") = some true)
    (v_j_NoPlace_0 : PySem.W.kitAny K (.ref a_NoPlace) [.ref a_NoPicture, .ref a_NoPage, .ref a_NoTree, .ref a_NoNeeds] = some false)
    (v_j_NoPlace_1 : PySem.W.kitAny K (.ref a_NoPlace) [.ref a_NoTexts, .ref a_NoRoom, .ref a_NoRow, .ref a_NoNumber] = some false) :
    ∃ fd : FuncData, (∀ (s : Shared) (v : Value), BindsTo s fd ⟨[v], []⟩ [("script", v)]) ∧ ∀ base : Heap, K.In base → base.Ns mainGlobals mg → FnOk l.prog w K mg base CX0 4 fa fd ["script"] (SpG K none G_law) := by
  have e2 : f_law = fa := (Value.ref.inj (Option.some.inj (hfa.symm.trans (PySem.W.mg_of X G n_law)))).symm
  subst e2
  let T : Txt K mg :=
    { b_ValueError := PySem.W.mg_none_of X G z_ValueError
      b_isinstance := PySem.W.mg_none_of X G z_isinstance
      b_len := PySem.W.mg_none_of X G z_len
      b_list := PySem.W.mg_none_of X G z_list
      b_min := PySem.W.mg_none_of X G z_min
      b_range := PySem.W.mg_none_of X G z_range
      a_PartError := a_PartError
      PartError := ⟨PySem.W.mg_of X G n_PartError, x_PartError, k_PartError, s_PartError, y_PartError⟩
      a_NoPage := a_NoPage
      NoPage := ⟨PySem.W.mg_of X G n_NoPage, x_NoPage, k_NoPage, s_NoPage, y_NoPage⟩
      a_NoPicture := a_NoPicture
      NoPicture := ⟨PySem.W.mg_of X G n_NoPicture, x_NoPicture, k_NoPicture, s_NoPicture, y_NoPicture⟩
      a_NoPlace := a_NoPlace
      NoPlace := ⟨PySem.W.mg_of X G n_NoPlace, x_NoPlace, k_NoPlace, s_NoPlace, y_NoPlace⟩
      a_NoTree := a_NoTree
      NoTree := ⟨PySem.W.mg_of X G n_NoTree, x_NoTree, k_NoTree, s_NoTree, y_NoTree⟩
      a_NoNeeds := a_NoNeeds
      NoNeeds := ⟨PySem.W.mg_of X G n_NoNeeds, x_NoNeeds, k_NoNeeds, s_NoNeeds, y_NoNeeds⟩
      a_NoTexts := a_NoTexts
      NoTexts := ⟨PySem.W.mg_of X G n_NoTexts, x_NoTexts, k_NoTexts, s_NoTexts, y_NoTexts⟩
      a_NoRoom := a_NoRoom
      NoRoom := ⟨PySem.W.mg_of X G n_NoRoom, x_NoRoom, k_NoRoom, s_NoRoom, y_NoRoom⟩
      a_NoRow := a_NoRow
      NoRow := ⟨PySem.W.mg_of X G n_NoRow, x_NoRow, k_NoRow, s_NoRow, y_NoRow⟩
      a_NoNumber := a_NoNumber
      NoNumber := ⟨PySem.W.mg_of X G n_NoNumber, x_NoNumber, k_NoNumber, s_NoNumber, y_NoNumber⟩
      f_words_in := f_words_in
      fd_words_in := _
      d_words_in := ⟨fun_mk (st := s_words_in) l_words_in c_words_in k_words_in, PySem.W.mg_of X G n_words_in, (fun_mk (st := s_words_in) l_words_in c_words_in k_words_in).binds (ps := ["rows", "boxes"]) fun _ _ _ _ _ _ us hl => match us, hl with | [_, _], _ => rfl⟩
      f_law_stir := f_law_stir
      fd_law_stir := _
      d_law_stir := ⟨fun_mk (st := s_law_stir) l_law_stir c_law_stir k_law_stir, PySem.W.mg_of X G n_law_stir, (fun_mk (st := s_law_stir) l_law_stir c_law_stir k_law_stir).binds (ps := ["cell", "k"]) fun _ _ _ _ _ _ us hl => match us, hl with | [_, _], _ => rfl⟩
      f_law_cell := f_law_cell
      fd_law_cell := _
      d_law_cell := ⟨fun_mk (st := s_law_cell) l_law_cell c_law_cell k_law_cell, PySem.W.mg_of X G n_law_cell, (fun_mk (st := s_law_cell) l_law_cell c_law_cell k_law_cell).binds (ps := ["script", "k"]) fun _ _ _ _ _ _ us hl => match us, hl with | [_, _], _ => rfl⟩
      f_law_word := f_law_word
      fd_law_word := _
      d_law_word := ⟨fun_mk (st := s_law_word) l_law_word c_law_word k_law_word, PySem.W.mg_of X G n_law_word, (fun_mk (st := s_law_word) l_law_word c_law_word k_law_word).binds (ps := ["cell"]) fun _ _ _ _ _ _ us hl => match us, hl with | [_], _ => rfl⟩
      f_law_rows := f_law_rows
      fd_law_rows := _
      d_law_rows := ⟨fun_mk (st := s_law_rows) l_law_rows c_law_rows k_law_rows, PySem.W.mg_of X G n_law_rows, (fun_mk (st := s_law_rows) l_law_rows c_law_rows k_law_rows).binds (ps := ["script", "wide", "high"]) fun _ _ _ _ _ _ us hl => match us, hl with | [_, _, _], _ => rfl⟩
      f_law_box := f_law_box
      fd_law_box := _
      d_law_box := ⟨fun_mk (st := s_law_box) l_law_box c_law_box k_law_box, PySem.W.mg_of X G n_law_box, (fun_mk (st := s_law_box) l_law_box c_law_box k_law_box).binds (ps := ["cell", "wide", "high"]) fun _ _ _ _ _ _ us hl => match us, hl with | [_, _, _], _ => rfl⟩
      f_law_words := f_law_words
      fd_law_words := _
      d_law_words := ⟨fun_mk (st := s_law_words) l_law_words c_law_words k_law_words, PySem.W.mg_of X G n_law_words, (fun_mk (st := s_law_words) l_law_words c_law_words k_law_words).binds (ps := ["rows", "box"]) fun _ _ _ _ _ _ us hl => match us, hl with | [_, _], _ => rfl⟩
      f_law_refused := f_law_refused
      fd_law_refused := _
      d_law_refused := ⟨fun_mk (st := s_law_refused) l_law_refused c_law_refused k_law_refused, PySem.W.mg_of X G n_law_refused, (fun_mk (st := s_law_refused) l_law_refused c_law_refused k_law_refused).binds (ps := ["rows", "boxes"]) fun _ _ _ _ _ _ us hl => match us, hl with | [_, _], _ => rfl⟩
      f_law := f_law
      fd_law := _
      d_law := ⟨fun_mk (st := s_law) l_law c_law k_law, PySem.W.mg_of X G n_law, (fun_mk (st := s_law) l_law c_law k_law).binds (ps := ["script"]) fun _ _ _ _ _ _ us hl => match us, hl with | [_], _ => rfl⟩
      e_NoPlace := v_e_NoPlace
      m_NoPlace_PartError := v_m_NoPlace_PartError
      i_NoPlace_NoPlace := v_i_NoPlace_NoPlace
      i_NoPlace_ValueError := v_i_NoPlace_ValueError
      j_NoPlace_0 := v_j_NoPlace_0
      j_NoPlace_1 := v_j_NoPlace_1 }
  exact ⟨T.fd_law, fun s v => .of_eq rfl, fun base _ _ => ok_law T⟩
end SV
open PySem PySem.W PyProof.Rows
set_option maxHeartbeats 0 in
theorem PySem.Challenge.cw_pagepart_k67_words_read_holds : PySem.Challenge.rw_pagepart_k67_words_read.Holds := by
  w_on; o_law; k_head; (case hw => w_witness2)
  k_fill
  refine L2.walk_of (l := PySem.Challenge.rw_pagepart_k67_words_read) (n := 63) (k := 4) (x := "script") (CX := fun _ => L2.CX0) (sp := fun w => SV.SpG _ none SV.G_law) rfl (by decide) rfl ⟨rfl, by decide, by decide⟩ (fun w h Y => PySem.W.kIn_of Y) ?F (fun _ H a ns hl _ hS => SV.law_sp hS hl) (fun _ _ _ _ _ h => h)
  case F =>
    intro w mg fa h KX G hmg
    refine' SV.all_mk KX G hmg ?z_ValueError ?z_isinstance ?z_len ?z_list ?z_min ?z_range ?n_PartError ?x_PartError ?k_PartError ?s_PartError ?y_PartError ?n_NoPage ?x_NoPage ?k_NoPage ?s_NoPage ?y_NoPage ?n_NoPicture ?x_NoPicture ?k_NoPicture ?s_NoPicture ?y_NoPicture ?n_NoPlace ?x_NoPlace ?k_NoPlace ?s_NoPlace ?y_NoPlace ?n_NoTree ?x_NoTree ?k_NoTree ?s_NoTree ?y_NoTree ?n_NoNeeds ?x_NoNeeds ?k_NoNeeds ?s_NoNeeds ?y_NoNeeds ?n_NoTexts ?x_NoTexts ?k_NoTexts ?s_NoTexts ?y_NoTexts ?n_NoRoom ?x_NoRoom ?k_NoRoom ?s_NoRoom ?y_NoRoom ?n_NoRow ?x_NoRow ?k_NoRow ?s_NoRow ?y_NoRow ?n_NoNumber ?x_NoNumber ?k_NoNumber ?s_NoNumber ?y_NoNumber ?n_words_in ?l_words_in ?c_words_in ?k_words_in ?n_law_stir ?l_law_stir ?c_law_stir ?k_law_stir ?n_law_cell ?l_law_cell ?c_law_cell ?k_law_cell ?n_law_word ?l_law_word ?c_law_word ?k_law_word ?n_law_rows ?l_law_rows ?c_law_rows ?k_law_rows ?n_law_box ?l_law_box ?c_law_box ?k_law_box ?n_law_words ?l_law_words ?c_law_words ?k_law_words ?n_law_refused ?l_law_refused ?c_law_refused ?k_law_refused ?n_law ?l_law ?c_law ?k_law ?v_e_NoPlace ?v_m_NoPlace_PartError ?v_i_NoPlace_NoPlace ?v_i_NoPlace_ValueError ?v_j_NoPlace_0 ?v_j_NoPlace_1
    (case z_ValueError => k_is); (case z_isinstance => k_is); (case z_len => k_is); (case z_list => k_is); (case z_min => k_is); (case z_range => k_is); (case n_PartError => k_is); (case x_PartError => k_exc); (case k_PartError => k_is); (case s_PartError => k_is); (case y_PartError => k_is); (case n_NoPage => k_is); (case x_NoPage => k_exc); (case k_NoPage => k_is); (case s_NoPage => k_is); (case y_NoPage => k_is); (case n_NoPicture => k_is); (case x_NoPicture => k_exc); (case k_NoPicture => k_is); (case s_NoPicture => k_is); (case y_NoPicture => k_is); (case n_NoPlace => k_is); (case x_NoPlace => k_exc); (case k_NoPlace => k_is); (case s_NoPlace => k_is); (case y_NoPlace => k_is); (case n_NoTree => k_is); (case x_NoTree => k_exc); (case k_NoTree => k_is); (case s_NoTree => k_is); (case y_NoTree => k_is); (case n_NoNeeds => k_is); (case x_NoNeeds => k_exc); (case k_NoNeeds => k_is); (case s_NoNeeds => k_is); (case y_NoNeeds => k_is); (case n_NoTexts => k_is); (case x_NoTexts => k_exc); (case k_NoTexts => k_is); (case s_NoTexts => k_is); (case y_NoTexts => k_is); (case n_NoRoom => k_is); (case x_NoRoom => k_exc); (case k_NoRoom => k_is); (case s_NoRoom => k_is); (case y_NoRoom => k_is); (case n_NoRow => k_is); (case x_NoRow => k_exc); (case k_NoRow => k_is); (case s_NoRow => k_is); (case y_NoRow => k_is); (case n_NoNumber => k_is); (case x_NoNumber => k_exc); (case k_NoNumber => k_is); (case s_NoNumber => k_is); (case y_NoNumber => k_is); (case n_words_in => k_is); (case l_words_in => k_is); (case c_words_in => k_is); (case k_words_in => k_is); (case n_law_stir => k_is); (case l_law_stir => k_is); (case c_law_stir => k_is); (case k_law_stir => k_is); (case n_law_cell => k_is); (case l_law_cell => k_is); (case c_law_cell => k_is); (case k_law_cell => k_is); (case n_law_word => k_is); (case l_law_word => k_is); (case c_law_word => k_is); (case k_law_word => k_is); (case n_law_rows => k_is); (case l_law_rows => k_is); (case c_law_rows => k_is); (case k_law_rows => k_is); (case n_law_box => k_is); (case l_law_box => k_is); (case c_law_box => k_is); (case k_law_box => k_is); (case n_law_words => k_is); (case l_law_words => k_is); (case c_law_words => k_is); (case k_law_words => k_is); (case n_law_refused => k_is); (case l_law_refused => k_is); (case c_law_refused => k_is); (case k_law_refused => k_is); (case n_law => k_is); (case l_law => k_is); (case c_law => k_is); (case k_law => k_is); (case v_e_NoPlace => exact ⟨by k_is, by k_is, by k_is, by k_is, by k_is, by k_is, by k_is, by k_is⟩); (case v_m_NoPlace_PartError => exact PySem.W.exm_ref (by k_is) (by k_is) (by k_is) (by k_is)); (case v_i_NoPlace_NoPlace => exact SV.kit_self); (case v_i_NoPlace_ValueError => exact (SV.kit_bt (by decide) (by k_is))); (case v_j_NoPlace_0 => exact (L2.kitAny_cons (b := false) (SV.kit_ne (by decide) (by k_is) (by k_is) (by k_is)) (fun _ => (L2.kitAny_cons (b := false) (SV.kit_ne (by decide) (by k_is) (by k_is) (by k_is)) (fun _ => (L2.kitAny_cons (b := false) (SV.kit_ne (by decide) (by k_is) (by k_is) (by k_is)) (fun _ => (L2.kitAny_cons (b := false) (SV.kit_ne (by decide) (by k_is) (by k_is) (by k_is)) (fun _ => rfl) (fun h => nomatch h))) (fun h => nomatch h))) (fun h => nomatch h))) (fun h => nomatch h))); (case v_j_NoPlace_1 => exact (L2.kitAny_cons (b := false) (SV.kit_ne (by decide) (by k_is) (by k_is) (by k_is)) (fun _ => (L2.kitAny_cons (b := false) (SV.kit_ne (by decide) (by k_is) (by k_is) (by k_is)) (fun _ => (L2.kitAny_cons (b := false) (SV.kit_ne (by decide) (by k_is) (by k_is) (by k_is)) (fun _ => (L2.kitAny_cons (b := false) (SV.kit_ne (by decide) (by k_is) (by k_is) (by k_is)) (fun _ => rfl) (fun h => nomatch h))) (fun h => nomatch h))) (fun h => nomatch h))) (fun h => nomatch h)))
