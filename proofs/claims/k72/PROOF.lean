import PyProof.Rows.All
import Wide.All
import OpenK.AllK
import Wide.FinOn
import HandS.ForMost
import HandS.Evl
import HandS.Exc
import HandS.ExcOwn
import HandS.TryOnly
import HandS.WordsExc
import HandS.IsInst
import HandS.TupAny
import HandS.Text
import HandS.Comp
import HandS.ExcIs
import HandS.Style
import HandS.WordsDict
import HandS.More
import HandS.SortRule
import HandS.SortKw
import KE.KSortTupAny
import PySem.Challenge.RW_pagepart_k72_whole_no_way_puts_more
set_option Elab.async false
set_option linter.all false
set_option maxRecDepth 100000
set_option autoImplicit false
set_option maxHeartbeats 1000000
/-! SV: readings over plain data. A frozen heap F (only grows, holds all plain data), lists that a frame owns, slots that hold data. -/
namespace SV
open PySem PySem.Spec L2

abbrev Fr := PySem.W.Frag
end SV
namespace Evl.Ex
open PySem L2 SV
theorem sl {K : SV.Fr} {H H' : Hp} {a : Addr} {xs : List V} (e : Evl.Ex H H') (h : SqL K H a xs) : SqL K H' a xs := Evl.ex_l e h
theorem stt {K : SV.Fr} {H H' : Hp} {a : Addr} {xs : List V} (e : Evl.Ex H H') (h : SqT K H a xs) : SqT K H' a xs := Evl.ex_t e h
theorem free {H H' : Hp} {p : Addr} (e : Evl.Ex H H') (h : H' p = none) : H p = none := Evl.fresh_back e h
end Evl.Ex
namespace SV
open PySem PySem.Spec L2
open Evl (Ex)

/-! ### plain data in a heap -/
mutual
inductive Rp (K : Fr) (F : Hp) : V → PyData → Prop
  | non : Rp K F .non .none
  | bl (b : Bool) : Rp K F (.bl b) (.bool b)
  | int (i : Int) : Rp K F (.int i) (.int i)
  | str (x : Str) : Rp K F (.str x) (.str x)
  | lst {a : Addr} {vs : List V} {xs : List PyData} : F a = some (.lst vs) → RpA K F vs xs → Rp K F (.ref a) (.list xs)
  | tup {a : Addr} {vs : List V} {xs : List PyData} : SqT K F a vs → RpA K F vs xs → Rp K F (.ref a) (.tuple xs)
  | dct {a : Addr} : F a = some (.dK []) → Rp K F (.ref a) (.dict [])
inductive RpA (K : Fr) (F : Hp) : List V → List PyData → Prop
  | nil : RpA K F [] []
  | cons {v : V} {vs : List V} {d : PyData} {ds : List PyData} : Rp K F v d → RpA K F vs ds → RpA K F (v :: vs) (d :: ds)
end
section
variable {K : Fr} {F F' H H' : Hp}
mutual
theorem Rp.mono (e : Ex F F') : ∀ {d : PyData} {v : V}, Rp K F v d → Rp K F' v d
  | .none, _, .non => .non
  | .bool _, _, .bl b => .bl b
  | .int _, _, .int b => .int b
  | .str _, _, .str b => .str b
  | .list _, _, .lst h r => .lst (e _ _ h) (RpA.mono e r)
  | .tuple _, _, .tup h r => .tup (e.stt h) (RpA.mono e r)
  | .dict _, _, .dct h => .dct (e _ _ h)
theorem RpA.mono (e : Ex F F') : ∀ {ds : List PyData} {vs : List V}, RpA K F vs ds → RpA K F' vs ds
  | [], _, .nil => .nil
  | _ :: _, _, .cons h r => .cons (Rp.mono e h) (RpA.mono e r)
end
theorem RpA.length : ∀ {ds : List PyData} {vs : List V}, RpA K F vs ds → vs.length = ds.length
  | [], _, .nil => rfl
  | _ :: _, _, .cons _ r => congrArg (· + 1) (RpA.length r)
theorem RpA.get : ∀ {ds : List PyData} {vs : List V} {i : Nat} {v : V}, RpA K F vs ds → vs[i]? = some v → ∃ d, ds[i]? = some d ∧ Rp K F v d
  | [], _, _, _, .nil, h => by simp at h
  | d :: _, _, 0, _, .cons q _, h => by
    have e := Option.some.inj h
    subst e
    exact ⟨d, rfl, q⟩
  | _ :: _, _, i + 1, _, .cons _ r, h => RpA.get (i := i) r h
theorem RpA.get' : ∀ {ds : List PyData} {vs : List V} {i : Nat} {d : PyData}, RpA K F vs ds → ds[i]? = some d → ∃ v, vs[i]? = some v ∧ Rp K F v d
  | [], _, _, _, .nil, h => by simp at h
  | d :: _, v :: _, 0, _, .cons q _, h => by
    have e := Option.some.inj h
    subst e
    exact ⟨v, rfl, q⟩
  | _ :: _, _ :: _, i + 1, _, .cons _ r, h => RpA.get' (i := i) r h
theorem RpA.append : ∀ {ds es : List PyData} {vs ws : List V}, RpA K F vs ds → RpA K F ws es → RpA K F (vs ++ ws) (ds ++ es)
  | [], _, _, _, .nil, s => s
  | _ :: _, _, _, _, .cons h r, s => .cons h (RpA.append r s)
theorem RpA.take : ∀ {ds : List PyData} {vs : List V} (n : Nat), RpA K F vs ds → RpA K F (vs.take n) (ds.take n)
  | _, _, 0, _ => .nil
  | [], _, _ + 1, .nil => .nil
  | _ :: _, _, n + 1, .cons h r => .cons h (RpA.take n r)
theorem RpA.drop : ∀ {ds : List PyData} {vs : List V} (n : Nat), RpA K F vs ds → RpA K F (vs.drop n) (ds.drop n)
  | _, _, 0, r => r
  | [], _, _ + 1, .nil => .nil
  | _ :: _, _, n + 1, .cons _ r => RpA.drop n r
theorem RpA.set : ∀ {ds : List PyData} {vs : List V} {v : V} {d : PyData} (i : Nat), RpA K F vs ds → Rp K F v d → RpA K F (vs.set i v) (ds.set i d)
  | [], _, _, _, _, .nil, _ => .nil
  | _ :: _, _, _, _, 0, .cons _ r, q => .cons q r
  | _ :: _, _, _, _, i + 1, .cons h r, q => .cons h (RpA.set i r q)
theorem RpA.dropLast : ∀ {ds : List PyData} {vs : List V}, RpA K F vs ds → RpA K F vs.dropLast ds.dropLast := fun {ds vs} r => by
  rw [List.dropLast_eq_take, List.dropLast_eq_take, r.length]
  exact r.take _
theorem RpA.erase : ∀ {ds : List PyData} {vs : List V} (i : Nat), RpA K F vs ds → RpA K F (vs.eraseIdx i) (ds.eraseIdx i)
  | [], _, _, .nil => .nil
  | _ :: _, _, 0, .cons _ r => r
  | _ :: _, _, i + 1, .cons h r => .cons h (RpA.erase i r)
theorem RpA.reverse {ds : List PyData} {vs : List V} (r : RpA K F vs ds) : RpA K F vs.reverse ds.reverse := by
  induction ds generalizing vs with
  | nil => cases r; exact .nil
  | cons d ds ih =>
    cases r with
    | cons h r =>
      rw [List.reverse_cons, List.reverse_cons]
      exact (ih r).append (.cons h .nil)
theorem RpA.rep {ds : List PyData} {vs : List V} (r : RpA K F vs ds) : ∀ k : Nat, RpA K F (List.replicate k vs).flatten (List.replicate k ds).flatten
  | 0 => .nil
  | k + 1 => by
    rw [List.replicate_succ, List.replicate_succ, List.flatten_cons, List.flatten_cons]
    exact r.append (RpA.rep r k)
/-! scalars -/
theorem Rp.int_inv {v : V} {i : Int} (h : Rp K F v (.int i)) : v = .int i := by cases h; rfl
theorem Rp.bl_inv {v : V} {i : Bool} (h : Rp K F v (.bool i)) : v = .bl i := by cases h; rfl
theorem Rp.str_inv {v : V} {i : Str} (h : Rp K F v (.str i)) : v = .str i := by cases h; rfl
theorem Rp.non_inv {v : V} (h : Rp K F v .none) : v = .non := by cases h; rfl
theorem RpA.ints : ∀ {ns : List Int} {vs : List V}, RpA K F vs (ns.map .int) → vs = ns.map V.int
  | [], _, .nil => rfl
  | n :: ns, _, .cons h r => by rw [h.int_inv, RpA.ints (ns := ns) r, List.map_cons]
theorem RpA.strs : ∀ {ns : List Str} {vs : List V}, RpA K F vs (ns.map .str) → vs = ns.map V.str
  | [], _, .nil => rfl
  | n :: ns, _, .cons h r => by rw [h.str_inv, RpA.strs (ns := ns) r, List.map_cons]
theorem RpA.bls : ∀ {ns : List Bool} {vs : List V}, RpA K F vs (ns.map .bool) → vs = ns.map V.bl
  | [], _, .nil => rfl
  | n :: ns, _, .cons h r => by rw [h.bl_inv, RpA.bls (ns := ns) r, List.map_cons]
theorem RpA.of_ints : ∀ (ns : List Int), RpA K F (ns.map V.int) (ns.map .int)
  | [] => .nil
  | n :: ns => .cons (.int n) (RpA.of_ints ns)
theorem RpA.of_strs : ∀ (ns : List Str), RpA K F (ns.map V.str) (ns.map .str)
  | [] => .nil
  | n :: ns => .cons (.str n) (RpA.of_strs ns)
/-! no dict within: the library's data -/
mutual
def noD : PyData → Bool
  | .list xs => noDs xs
  | .tuple xs => noDs xs
  | .dict _ => false
  | _ => true
def noDs : List PyData → Bool
  | [] => true
  | x :: xs => noD x && noDs xs
end
mutual
theorem Rp.dp (e : Ex F H) : ∀ {d : PyData} {v : V}, Rp K F v d → noD d = true → Dp K H v d
  | .none, _, .non, _ => .non
  | .bool _, _, .bl b, _ => .bl b
  | .int _, _, .int b, _ => .int b
  | .str _, _, .str b, _ => .str b
  | .list _, _, .lst h r, n => .lst (.inl (.inl (e _ _ h))) (RpA.dp e r (by unfold noD at n; exact n))
  | .tuple _, _, .tup h r, n => .tup (e.stt h) (RpA.dp e r (by unfold noD at n; exact n))
  | .dict _, _, .dct h, n => by unfold noD at n; cases n
theorem RpA.dp (e : Ex F H) : ∀ {ds : List PyData} {vs : List V}, RpA K F vs ds → noDs ds = true → DpAll K H vs ds
  | [], _, .nil, _ => .nil
  | _ :: _, _, .cons h r, n => by
    unfold noDs at n
    have n' := Bool.and_eq_true_iff.mp n
    exact .cons (Rp.dp e h n'.1) (RpA.dp e r n'.2)
end
end

/-! ### objects that a frame owns, as a tree with their addresses -/
inductive OT where
  | d (x : PyData)
  | lst (a : Addr) (ts : List OT)
  | tup (a : Addr) (ts : List OT)
  | dct (a : Addr) (ks : List Key) (ts : List OT)
mutual
def OT.fp : OT → List Addr
  | .d _ => []
  | .lst a ts => a :: fps ts
  | .tup a ts => a :: fps ts
  | .dct a _ ts => a :: fps ts
def fps : List OT → List Addr
  | [] => []
  | t :: ts => t.fp ++ fps ts
end
mutual
def OT.data : OT → PyData
  | .d x => x
  | .lst _ ts => .list (datas ts)
  | .tup _ ts => .tuple (datas ts)
  | .dct _ _ _ => .dict []
def datas : List OT → List PyData
  | [] => []
  | t :: ts => t.data :: datas ts
end
mutual
def OT.isD : OT → Bool
  | .d _ => true
  | .lst _ ts => areD ts
  | .tup _ ts => areD ts
  | .dct _ _ _ => false
def areD : List OT → Bool
  | [] => true
  | t :: ts => t.isD && areD ts
end
mutual
inductive Ot (K : Fr) (F H : Hp) : V → OT → Prop
  | d {v : V} {x : PyData} : Rp K F v x → Ot K F H v (.d x)
  | lst {a : Addr} {vs : List V} {ts : List OT} : F a = none → H a = some (.lst vs) → OtA K F H vs ts → Ot K F H (.ref a) (.lst a ts)
  | tup {a : Addr} {vs : List V} {ts : List OT} : F a = none → H a = some (.tup vs) → OtA K F H vs ts → Ot K F H (.ref a) (.tup a ts)
  | dct {a : Addr} {ks : List Key} {vs : List V} {ts : List OT} : F a = none → H a = some (.dK (ks.zip vs)) → ks.length = ts.length → OtA K F H vs ts → Ot K F H (.ref a) (.dct a ks ts)
inductive OtA (K : Fr) (F H : Hp) : List V → List OT → Prop
  | nil : OtA K F H [] []
  | cons {v : V} {vs : List V} {t : OT} {ts : List OT} : Ot K F H v t → OtA K F H vs ts → OtA K F H (v :: vs) (t :: ts)
end
section
variable {K : Fr} {F F' H H' : Hp}
theorem fps_map_d : ∀ xs : List PyData, fps (xs.map .d) = []
  | [] => rfl
  | _ :: xs => fps_map_d xs
theorem datas_map_d : ∀ xs : List PyData, datas (xs.map .d) = xs
  | [] => rfl
  | x :: xs => congrArg (x :: ·) (datas_map_d xs)
theorem areD_map_d : ∀ xs : List PyData, areD (xs.map .d) = true
  | [] => rfl
  | _ :: xs => areD_map_d xs
theorem fps_app : ∀ xs ys : List OT, fps (xs ++ ys) = fps xs ++ fps ys
  | [], _ => rfl
  | x :: xs, ys => by
    show x.fp ++ fps (xs ++ ys) = _
    rw [fps_app xs ys, ← List.append_assoc]
    rfl
theorem datas_app : ∀ xs ys : List OT, datas (xs ++ ys) = datas xs ++ datas ys
  | [], _ => rfl
  | x :: xs, ys => congrArg (x.data :: ·) (datas_app xs ys)
theorem areD_app : ∀ xs ys : List OT, areD (xs ++ ys) = (areD xs && areD ys)
  | [], _ => rfl
  | x :: xs, ys => by
    show (x.isD && areD (xs ++ ys)) = _
    rw [areD_app xs ys, ← Bool.and_assoc]
    rfl
theorem datas_len : ∀ ts : List OT, (datas ts).length = ts.length
  | [] => rfl
  | _ :: ts => congrArg (· + 1) (datas_len ts)
theorem datas_eq : ∀ ts : List OT, datas ts = ts.map OT.data
  | [] => rfl
  | t :: ts => congrArg (t.data :: ·) (datas_eq ts)
theorem fp_sub {t : OT} {ts : List OT} (h : t ∈ ts) {a : Addr} (ha : a ∈ t.fp) : a ∈ fps ts := by
  induction ts with
  | nil => cases h
  | cons u us ih =>
    rcases List.mem_cons.mp h with rfl | h
    · exact List.mem_append_left _ ha
    · exact List.mem_append_right _ (ih h)
theorem fps_in {ts : List OT} {a : Addr} (ha : a ∈ fps ts) : ∃ t, t ∈ ts ∧ a ∈ t.fp := by
  induction ts with
  | nil => cases ha
  | cons u us ih =>
    rcases List.mem_append.mp ha with h | h
    · exact ⟨u, List.mem_cons_self, h⟩
    · obtain ⟨t, h1, h2⟩ := ih h
      exact ⟨t, List.mem_cons_of_mem _ h1, h2⟩
mutual
theorem Ot.mono (ef : Ex F F') : ∀ {t : OT} {v : V}, Ot K F H v t → (∀ a, a ∈ t.fp → F' a = none ∧ H' a = H a) → Ot K F' H' v t
  | .d _, _, .d h, _ => .d (Rp.mono ef h)
  | .lst a _, _, .lst h1 h2 h3, e => .lst (e a List.mem_cons_self).1 ((e a List.mem_cons_self).2.trans h2) (OtA.mono ef h3 fun b hb => e b (List.mem_cons_of_mem _ hb))
  | .tup a _, _, .tup h1 h2 h3, e => .tup (e a List.mem_cons_self).1 ((e a List.mem_cons_self).2.trans h2) (OtA.mono ef h3 fun b hb => e b (List.mem_cons_of_mem _ hb))
  | .dct a _ _, _, .dct h1 h2 hl h3, e => .dct (e a List.mem_cons_self).1 ((e a List.mem_cons_self).2.trans h2) hl (OtA.mono ef h3 fun b hb => e b (List.mem_cons_of_mem _ hb))
theorem OtA.mono (ef : Ex F F') : ∀ {ts : List OT} {vs : List V}, OtA K F H vs ts → (∀ a, a ∈ fps ts → F' a = none ∧ H' a = H a) → OtA K F' H' vs ts
  | [], _, .nil, _ => .nil
  | _ :: _, _, .cons h r, e => .cons (Ot.mono ef h fun b hb => e b (List.mem_append_left _ hb)) (OtA.mono ef r fun b hb => e b (List.mem_append_right _ hb))
end
mutual
theorem Ot.live : ∀ {t : OT} {v : V}, Ot K F H v t → ∀ {a : Addr}, a ∈ t.fp → F a = none ∧ ∃ o, H a = some o
  | .d _, _, .d _, _, ha => nomatch ha
  | .lst _ _, _, .lst h1 h2 h3, _, ha => (List.mem_cons.mp ha).elim (fun e => by subst e; exact ⟨h1, _, h2⟩) fun h => OtA.live h3 h
  | .tup _ _, _, .tup h1 h2 h3, _, ha => (List.mem_cons.mp ha).elim (fun e => by subst e; exact ⟨h1, _, h2⟩) fun h => OtA.live h3 h
  | .dct _ _ _, _, .dct h1 h2 _ h3, _, ha => (List.mem_cons.mp ha).elim (fun e => by subst e; exact ⟨h1, _, h2⟩) fun h => OtA.live h3 h
theorem OtA.live : ∀ {ts : List OT} {vs : List V}, OtA K F H vs ts → ∀ {a : Addr}, a ∈ fps ts → F a = none ∧ ∃ o, H a = some o
  | [], _, .nil, _, ha => nomatch ha
  | _ :: _, _, .cons h r, _, ha => (List.mem_append.mp ha).elim (fun k => Ot.live h k) fun k => OtA.live r k
end
mutual
theorem Ot.rp (ef : Ex F F') : ∀ {t : OT} {v : V}, Ot K F H v t → t.isD = true → (∀ a, a ∈ t.fp → F' a = H a) → Rp K F' v t.data
  | .d _, _, .d h, _, _ => by
    unfold OT.data
    exact Rp.mono ef h
  | .lst a _, _, .lst h1 h2 h3, n, e => by
    unfold OT.data
    unfold OT.isD at n
    exact .lst ((e a List.mem_cons_self).trans h2) (OtA.rp ef h3 n fun b hb => e b (List.mem_cons_of_mem _ hb))
  | .tup a _, _, .tup h1 h2 h3, n, e => by
    unfold OT.data
    unfold OT.isD at n
    exact .tup (.inl (.inl ((e a List.mem_cons_self).trans h2))) (OtA.rp ef h3 n fun b hb => e b (List.mem_cons_of_mem _ hb))
  | .dct a _ _, _, .dct h1 h2 hl h3, n, e => by
    unfold OT.isD at n
    cases n
theorem OtA.rp (ef : Ex F F') : ∀ {ts : List OT} {vs : List V}, OtA K F H vs ts → areD ts = true → (∀ a, a ∈ fps ts → F' a = H a) → RpA K F' vs (datas ts)
  | [], _, .nil, _, _ => .nil
  | _ :: _, _, .cons h r, n, e => by
    unfold areD at n
    have n' := Bool.and_eq_true_iff.mp n
    exact .cons (Ot.rp ef h n'.1 fun b hb => e b (List.mem_append_left _ hb)) (OtA.rp ef r n'.2 fun b hb => e b (List.mem_append_right _ hb))
end
theorem OtA.length : ∀ {ts : List OT} {vs : List V}, OtA K F H vs ts → vs.length = ts.length
  | [], _, .nil => rfl
  | _ :: _, _, .cons _ r => congrArg (· + 1) (OtA.length r)
theorem OtA.get : ∀ {ts : List OT} {vs : List V} {i : Nat} {v : V}, OtA K F H vs ts → vs[i]? = some v → ∃ t, ts[i]? = some t ∧ Ot K F H v t
  | [], _, _, _, .nil, h => by simp at h
  | t :: _, _, 0, _, .cons q _, h => by
    have e := Option.some.inj h
    subst e
    exact ⟨t, rfl, q⟩
  | _ :: _, _, i + 1, _, .cons _ r, h => OtA.get (i := i) r h
theorem OtA.get' : ∀ {ts : List OT} {vs : List V} {i : Nat} {t : OT}, OtA K F H vs ts → ts[i]? = some t → ∃ v, vs[i]? = some v ∧ Ot K F H v t
  | [], _, _, _, .nil, h => by simp at h
  | t :: _, v :: _, 0, _, .cons q _, h => by
    have e := Option.some.inj h
    subst e
    exact ⟨v, rfl, q⟩
  | _ :: _, _ :: _, i + 1, _, .cons _ r, h => OtA.get' (i := i) r h
theorem OtA.append : ∀ {ts us : List OT} {vs ws : List V}, OtA K F H vs ts → OtA K F H ws us → OtA K F H (vs ++ ws) (ts ++ us)
  | [], _, _, _, .nil, s => s
  | _ :: _, _, _, _, .cons h r, s => .cons h (OtA.append r s)
theorem OtA.set : ∀ {ts : List OT} {vs : List V} {v : V} {t : OT} (i : Nat), OtA K F H vs ts → Ot K F H v t → OtA K F H (vs.set i v) (ts.set i t)
  | [], _, _, _, _, .nil, _ => .nil
  | _ :: _, _, _, _, 0, .cons _ r, q => .cons q r
  | _ :: _, _, _, _, i + 1, .cons h r, q => .cons h (OtA.set i r q)
theorem OtA.take : ∀ {ts : List OT} {vs : List V} (n : Nat), OtA K F H vs ts → OtA K F H (vs.take n) (ts.take n)
  | _, _, 0, _ => .nil
  | [], _, _ + 1, .nil => .nil
  | _ :: _, _, n + 1, .cons h r => .cons h (OtA.take n r)
theorem OtA.dropLast {ts : List OT} {vs : List V} (r : OtA K F H vs ts) : OtA K F H vs.dropLast ts.dropLast := by
  rw [List.dropLast_eq_take, List.dropLast_eq_take, r.length]
  exact r.take _
theorem OtA.of_rp : ∀ {xs : List PyData} {vs : List V}, RpA K F vs xs → OtA K F H vs (xs.map .d)
  | [], _, .nil => .nil
  | _ :: _, _, .cons h r => .cons (.d h) (OtA.of_rp r)
theorem OtA.to_rp : ∀ {xs : List PyData} {vs : List V}, OtA K F H vs (xs.map .d) → RpA K F vs xs
  | [], _, .nil => .nil
  | _ :: _, _, .cons (.d h) r => .cons h (OtA.to_rp r)
end

/-! ### slots, the base of a frame, what holds in it -/
inductive L where
  | d (x : PyData)
  | own (xs : List PyData)
  | scr (ns : List Int)
  | raw (v : V)
  | deep (t : OT)
  | ownD (ks : List Key) (xs : List PyData)
abbrev En := List (Option L)
structure Bs where
  F0 : Hp
  H0 : Hp
  pin : Option (Nat × Addr)
def SlotOk (K : Fr) (F H : Hp) (v : V) : L → Prop
  | .d x => Rp K F v x
  | .own xs => ∃ a vs, v = .ref a ∧ F a = none ∧ H a = some (.lst vs) ∧ RpA K F vs xs
  | .scr ns => ∃ a, v = .ref a ∧ SqL K F a (ns.map V.int)
  | .raw w => v = w
  | .deep t => Ot K F H v t ∧ t.fp.Nodup
  | .ownD ks xs => ∃ a vs, v = .ref a ∧ F a = none ∧ H a = some (.dK (ks.zip vs)) ∧ ks.length = xs.length ∧ RpA K F vs xs
/-- is no thing that the frame owns -/
def L.pl : L → Bool
  | .own _ => false
  | .deep _ => false
  | .ownD _ _ => false
  | _ => true
/-- the addresses that a slot's thing owns -/
def LFp (v : V) : L → Addr → Prop
  | .own _, a => v = .ref a
  | .deep t, a => a ∈ t.fp
  | .ownD _ _, a => v = .ref a
  | _, _ => False
def SFp (σ : St) (ρ : En) (i : Nat) (a : Addr) : Prop := ∃ l v, ρ[i]? = some (some l) ∧ σ[i]? = some (some v) ∧ LFp v l a
structure St1 (B : Bs) (F H : Hp) : Prop where
  f0 : Ex B.F0 F
  fh : Ex F H
  h0 : ∀ a o, B.H0 a = some o → (∀ i, B.pin ≠ some (i, a)) → H a = some o
  th : ∀ a, B.H0 a ≠ none → H a ≠ none
  nf : ∀ a, B.F0 a = none → B.H0 a ≠ none → F a = none
structure EnvOk (B : Bs) (K : Fr) (F H : Hp) (σ : St) (ρ : En) : Prop where
  st : St1 B F H
  len : σ.length = ρ.length
  sl : ∀ (i : Nat) (l : L), ρ[i]? = some (some l) → ∃ v, σ[i]? = some (some v) ∧ SlotOk K F H v l
  sep : ∀ (i j : Nat) (a : Addr), SFp σ ρ i a → SFp σ ρ j a → i = j
  mine : ∀ (i : Nat) (a : Addr), SFp σ ρ i a → B.H0 a = none ∨ B.pin = some (i, a)
  pin : ∀ (i : Nat) (a : Addr), B.pin = some (i, a) → σ[i]? = some (some (.ref a)) ∧ (((∃ xs : List PyData, ρ[i]? = some (some (.own xs))) ∧ ∃ vs, B.H0 a = some (.lst vs)) ∨ ((∃ ks xs, ρ[i]? = some (some (.ownD ks xs))) ∧ ∃ kvs, B.H0 a = some (.dK kvs)))
/-- a value that an expression gives: data, a new list that nobody else holds, the script, any value, new things -/
inductive R where
  | d (x : PyData)
  | new (xs : List PyData)
  | scr (ns : List Int)
  | raw (v : V)
  | deep (t : OT)
  | newD (ks : List Key) (xs : List PyData)
def R.toD : R → Option PyData
  | .d x => some x
  | .new xs => some (.list xs)
  | .deep t => if t.isD = true then some t.data else none
  | _ => none
/-- addresses that nobody holds -/
def Free (B : Bs) (σ : St) (ρ : En) (as : List Addr) : Prop := ∀ a, a ∈ as → B.H0 a = none ∧ ∀ i, ¬ SFp σ ρ i a
def ROk (B : Bs) (K : Fr) (F H : Hp) (σ : St) (ρ : En) (v : V) : R → Prop
  | .d x => Rp K F v x
  | .new xs => ∃ a vs, v = .ref a ∧ F a = none ∧ H a = some (.lst vs) ∧ RpA K F vs xs ∧ B.H0 a = none ∧ ∀ i, ¬ SFp σ ρ i a
  | .scr ns => ∃ a, v = .ref a ∧ SqL K F a (ns.map V.int)
  | .raw w => v = w
  | .deep t => Ot K F H v t ∧ t.fp.Nodup ∧ Free B σ ρ t.fp
  | .newD ks xs => ∃ a vs, v = .ref a ∧ F a = none ∧ H a = some (.dK (ks.zip vs)) ∧ ks.length = xs.length ∧ RpA K F vs xs ∧ B.H0 a = none ∧ ∀ i, ¬ SFp σ ρ i a

section
variable {B : Bs} {K : Fr} {F F' H H' : Hp} {σ σ' : St} {ρ ρ' : En} {v : V}
theorem SlotOk.mono {l : L} (ef : Ex F F') (eh : ∀ a, LFp v l a → F' a = none ∧ H' a = H a) (s : SlotOk K F H v l) : SlotOk K F' H' v l := by
  cases l with
  | d x => exact Rp.mono ef s
  | own xs =>
    obtain ⟨a, vs, e, h1, h2, h3⟩ := s
    obtain ⟨k1, k2⟩ := eh a e
    exact ⟨a, vs, e, k1, k2.trans h2, h3.mono ef⟩
  | scr ns =>
    obtain ⟨a, e, h⟩ := s
    exact ⟨a, e, ef.sl h⟩
  | raw w => exact s
  | deep t => exact ⟨s.1.mono ef eh, s.2⟩
  | ownD ks xs =>
    obtain ⟨a, vs, e, h1, h2, hl, h3⟩ := s
    obtain ⟨k1, k2⟩ := eh a e
    exact ⟨a, vs, e, k1, k2.trans h2, hl, h3.mono ef⟩
theorem SlotOk.live {l : L} (s : SlotOk K F H v l) {a : Addr} (h : LFp v l a) : F a = none ∧ ∃ o, H a = some o := by
  cases l with
  | own xs =>
    obtain ⟨b, vs, e, h1, h2, h3⟩ := s
    cases (show v = .ref a from h)
    cases e
    exact ⟨h1, _, h2⟩
  | deep t => exact s.1.live h
  | ownD ks xs =>
    obtain ⟨b, vs, e, h1, h2, hl, h3⟩ := s
    cases (show v = .ref a from h)
    cases e
    exact ⟨h1, _, h2⟩
  | _ => exact h.elim
theorem EnvOk.fh (E : EnvOk B K F H σ ρ) : Ex F H := E.st.fh
theorem EnvOk.own_at (E : EnvOk B K F H σ ρ) {i : Nat} {xs : List PyData} (h : ρ[i]? = some (some (.own xs))) : ∃ a vs, σ[i]? = some (some (.ref a)) ∧ F a = none ∧ H a = some (.lst vs) ∧ RpA K F vs xs := by
  obtain ⟨v, e, a, vs, rfl, h1, h2, h3⟩ := E.sl i _ h
  exact ⟨a, vs, e, h1, h2, h3⟩
theorem EnvOk.ownD_at (E : EnvOk B K F H σ ρ) {i : Nat} {ks : List Key} {xs : List PyData} (h : ρ[i]? = some (some (.ownD ks xs))) : ∃ a vs, σ[i]? = some (some (.ref a)) ∧ F a = none ∧ H a = some (.dK (ks.zip vs)) ∧ ks.length = xs.length ∧ RpA K F vs xs := by
  obtain ⟨v, e, a, vs, rfl, h1, h2, h3, h4⟩ := E.sl i _ h
  exact ⟨a, vs, e, h1, h2, h3, h4⟩
theorem EnvOk.live (E : EnvOk B K F H σ ρ) {i : Nat} {a : Addr} (h : SFp σ ρ i a) : F a = none ∧ ∃ o, H a = some o := by
  obtain ⟨l, v, h1, h2, h3⟩ := h
  obtain ⟨v', h4, s⟩ := E.sl i l h1
  rw [h2] at h4
  cases h4
  exact s.live h3
theorem EnvOk.sfp_own (E : EnvOk B K F H σ ρ) {i : Nat} {xs : List PyData} {a : Addr} (h : ρ[i]? = some (some (.own xs))) (ha : σ[i]? = some (some (.ref a))) : SFp σ ρ i a := ⟨_, _, h, ha, rfl⟩
theorem EnvOk.sfp_ownD (E : EnvOk B K F H σ ρ) {i : Nat} {ks : List Key} {xs : List PyData} {a : Addr} (h : ρ[i]? = some (some (.ownD ks xs))) (ha : σ[i]? = some (some (.ref a))) : SFp σ ρ i a := ⟨_, _, h, ha, rfl⟩
/-- a fresh place is nobody's -/
theorem EnvOk.fr (E : EnvOk B K F H σ ρ) {p : Addr} (hp : H p = none) (i : Nat) : ¬ SFp σ ρ i p := fun h => by
  obtain ⟨_, o, e⟩ := E.live h
  rw [hp] at e
  cases e
/-- the slots stay, where the own things stay -/
theorem EnvOk.sl_mono (E : EnvOk B K F H σ ρ) (ef : Ex F F') (eh : ∀ i a, SFp σ ρ i a → F' a = none ∧ H' a = H a) : ∀ (i : Nat) (l : L), ρ[i]? = some (some l) → ∃ v, σ[i]? = some (some v) ∧ SlotOk K F' H' v l := fun i l e => by
  obtain ⟨v, e1, s⟩ := E.sl i l e
  exact ⟨v, e1, s.mono ef fun a ha => eh i a ⟨l, v, e, e1, ha⟩⟩
/-- a new object that is frozen at once -/
theorem EnvOk.alloc (E : EnvOk B K F H σ ρ) {p : Addr} {o : HO} (hp : H p = none) : EnvOk B K (upd F p o) (upd H p o) σ ρ ∧ Ex F (upd F p o) := by
  have hF : F p = none := E.fh.free hp
  have ef : Ex F (upd F p o) := Ex.new hF
  have h0p : B.H0 p = none := by
    cases q : B.H0 p with
    | none => rfl
    | some u => exact absurd hp (E.st.th p (by rw [q]; exact fun z => nomatch z))
  refine ⟨⟨⟨E.st.f0.trans ef, fun a u e => ?_, fun a u e n => ?_, fun a h => ?_, fun a h1 h2 => ?_⟩, E.len, E.sl_mono ef fun i a h => ?_, E.sep, E.mine, E.pin⟩, ef⟩
  · by_cases ha : a = p
    · subst ha; rw [upd_same] at e ⊢; exact e
    · rw [upd_ne ha] at e ⊢; exact E.fh a u e
  · have ha : a ≠ p := fun z => by rw [z, h0p] at e; cases e
    rw [upd_ne ha]
    exact E.st.h0 a u e n
  · by_cases ha : a = p
    · subst ha; rw [upd_same]; exact fun z => nomatch z
    · rw [upd_ne ha]; exact E.st.th a h
  · have ha : a ≠ p := fun z => h2 (by rw [z]; exact h0p)
    rw [upd_ne ha]
    exact E.st.nf a h1 h2
  · have ha : a ≠ p := fun z => E.fr hp i (by rw [← z]; exact h)
    rw [upd_ne ha, upd_ne ha]
    exact ⟨(E.live h).1, rfl⟩
/-- a new object that stays out of F -/
theorem EnvOk.allocO (E : EnvOk B K F H σ ρ) {p : Addr} {o : HO} (hp : H p = none) : EnvOk B K F (upd H p o) σ ρ := by
  have hF : F p = none := E.fh.free hp
  have h0p : B.H0 p = none := by
    cases q : B.H0 p with
    | none => rfl
    | some u => exact absurd hp (E.st.th p (by rw [q]; exact fun z => nomatch z))
  refine ⟨⟨E.st.f0, E.fh.trans (Ex.new hp), fun a u e n => ?_, fun a h => ?_, E.st.nf⟩, E.len, E.sl_mono (Ex.refl F) fun i a h => ?_, E.sep, E.mine, E.pin⟩
  · have ha : a ≠ p := fun z => by rw [z, h0p] at e; cases e
    rw [upd_ne ha]
    exact E.st.h0 a u e n
  · by_cases ha : a = p
    · subst ha; rw [upd_same]; exact fun z => nomatch z
    · rw [upd_ne ha]; exact E.st.th a h
  · have ha : a ≠ p := fun z => E.fr hp i (by rw [← z]; exact h)
    exact ⟨(E.live h).1, upd_ne ha⟩
theorem EnvOk.h0p (E : EnvOk B K F H σ ρ) {p : Addr} (hp : H p = none) : B.H0 p = none := by
  cases q : B.H0 p with
  | none => rfl
  | some u => exact absurd hp (E.st.th p (by rw [q]; exact fun z => nomatch z))
theorem set_cases {α : Type} {l : List (Option α)} {i j : Nat} {x : Option α} {y : α} (h : (l.set i x)[j]? = some (some y)) : (j = i ∧ i < l.length ∧ x = some y) ∨ (j ≠ i ∧ l[j]? = some (some y)) := by
  by_cases c : j = i
  · subst c
    have hj := (List.getElem?_eq_some_iff.mp h).1
    rw [List.length_set] at hj
    rw [List.getElem?_set_self hj] at h
    exact .inl ⟨rfl, hj, Option.some.inj h⟩
  · rw [List.getElem?_set_ne (Ne.symm c)] at h
    exact .inr ⟨c, h⟩
/-- the own thing of slot i is another one: its place in the heap and the new ones beneath it -/
theorem EnvOk.put (E : EnvOk B K F H σ ρ) {i : Nat} {l l' : L} {v : V} (h : ρ[i]? = some (some l)) (hv : σ[i]? = some (some v)) (st : St1 B F H') (s : SlotOk K F H' v l') (keep : ∀ j a, j ≠ i → SFp σ ρ j a → H' a = H a)
    (nw : ∀ a, LFp v l' a → LFp v l a ∨ (B.H0 a = none ∧ ∀ j, ¬ SFp σ ρ j a)) (hp : (∃ xs ys, l = .own ys ∧ l' = .own xs) ∨ (∃ ks xs js ys, l = .ownD js ys ∧ l' = .ownD ks xs) ∨ ∀ a, B.pin ≠ some (i, a)) :
    EnvOk B K F H' σ (ρ.set i (some l')) := by
  have hi : i < ρ.length := (List.getElem?_eq_some_iff.mp h).1
  have fpo : ∀ j a, SFp σ (ρ.set i (some l')) j a → SFp σ ρ j a ∨ (j = i ∧ B.H0 a = none ∧ ∀ j, ¬ SFp σ ρ j a) := fun j a ⟨m, w, e1, e2, e3⟩ => by
    rcases set_cases e1 with ⟨rfl, _, e⟩ | ⟨n, e⟩
    · cases e
      rw [hv] at e2
      cases e2
      rcases nw a e3 with k | k
      · exact .inl ⟨l, v, h, hv, k⟩
      · exact .inr ⟨rfl, k⟩
    · exact .inl ⟨m, w, e, e2, e3⟩
  refine ⟨st, by rw [List.length_set]; exact E.len, fun j m e => ?_, fun j k a e1 e2 => ?_, fun j a e => ?_, fun j a e => ?_⟩
  · rcases set_cases e with ⟨rfl, _, e'⟩ | ⟨n, e'⟩
    · cases e'; exact ⟨v, hv, s⟩
    · obtain ⟨w, e1, s'⟩ := E.sl j m e'
      exact ⟨w, e1, s'.mono (Ex.refl F) fun a ha => ⟨(E.live ⟨m, w, e', e1, ha⟩).1, keep j a n ⟨m, w, e', e1, ha⟩⟩⟩
  · rcases fpo j a e1 with k1 | ⟨k1, _, n1⟩ <;> rcases fpo k a e2 with k2 | ⟨k2, _, n2⟩
    · exact E.sep j k a k1 k2
    · exact absurd k1 (n2 _)
    · exact absurd k2 (n1 _)
    · exact k1.trans k2.symm
  · rcases fpo j a e with k | ⟨_, k, _⟩
    · exact E.mine j a k
    · exact .inl k
  · obtain ⟨q1, q2⟩ := E.pin j a e
    refine ⟨q1, ?_⟩
    by_cases hj : j = i
    · subst hj
      rw [List.getElem?_set_self hi]
      rw [h] at q2
      rcases hp with ⟨xs, ys, rfl, rfl⟩ | ⟨ks, ts, js, ys, rfl, rfl⟩ | hp
      · rcases q2 with ⟨_, q2⟩ | ⟨⟨_, _, q2⟩, _⟩
        · exact .inl ⟨⟨xs, rfl⟩, q2⟩
        · cases q2
      · rcases q2 with ⟨⟨_, q2⟩, _⟩ | ⟨_, q2⟩
        · cases q2
        · exact .inr ⟨⟨ks, ts, rfl⟩, q2⟩
      · exact absurd e (hp a)
    · rw [List.getElem?_set_ne (Ne.symm hj)]; exact q2
/-- one own object is written -/
theorem EnvOk.st_write (E : EnvOk B K F H σ ρ) {i : Nat} {a : Addr} {o : HO} (h : SFp σ ρ i a) : St1 B F (upd H a o) := by
  obtain ⟨k1, u0, k2⟩ := E.live h
  refine ⟨E.st.f0, fun b u e => ?_, fun b u e n => ?_, fun b hb => ?_, E.st.nf⟩
  · have hb : b ≠ a := fun z => by rw [z, k1] at e; cases e
    rw [upd_ne hb]; exact E.fh b u e
  · have hb : b ≠ a := fun z => by
      subst z
      rcases E.mine i b h with z | z
      · rw [z] at e; cases e
      · exact n i z
    rw [upd_ne hb]; exact E.st.h0 b u e n
  · by_cases z : b = a
    · subst z; rw [upd_same]; exact fun z => nomatch z
    · rw [upd_ne z]; exact E.st.th b hb
/-- the own list of slot i is written -/
theorem EnvOk.write (E : EnvOk B K F H σ ρ) {i : Nat} {xs ys : List PyData} {a : Addr} {ws : List V} (h : ρ[i]? = some (some (.own xs))) (ha : σ[i]? = some (some (.ref a))) (r : RpA K F ws ys) :
    EnvOk B K F (upd H a (.lst ws)) σ (ρ.set i (some (.own ys))) := by
  have fa := E.sfp_own h ha
  have k1 := (E.live fa).1
  refine E.put h ha (E.st_write fa) ⟨a, ws, rfl, k1, upd_same, r⟩ (fun j b n hb => ?_) (fun b hb => .inl hb) (.inl ⟨ys, xs, rfl, rfl⟩)
  exact upd_ne fun z => by subst z; exact n (E.sep j i b hb fa)
/-- the own dict of slot i is written -/
theorem EnvOk.writeD (E : EnvOk B K F H σ ρ) {i : Nat} {ks js : List Key} {xs ys : List PyData} {a : Addr} {ws : List V} (h : ρ[i]? = some (some (.ownD ks xs))) (ha : σ[i]? = some (some (.ref a))) (hl : js.length = ys.length) (r : RpA K F ws ys) :
    EnvOk B K F (upd H a (.dK (js.zip ws))) σ (ρ.set i (some (.ownD js ys))) := by
  have fa := E.sfp_ownD h ha
  have k1 := (E.live fa).1
  refine E.put h ha (E.st_write fa) ⟨a, ws, rfl, k1, upd_same, hl, r⟩ (fun j b n hb => ?_) (fun b hb => .inl hb) (.inr (.inl ⟨js, ys, ks, xs, rfl, rfl⟩))
  exact upd_ne fun z => by subst z; exact n (E.sep j i b hb fa)
/-- a slot is stored: what is no own thing -/
theorem EnvOk.setD (E : EnvOk B K F H σ ρ) {i : Nat} {l : L} (hv : SlotOk K F H v l) (hl : l.pl = true) (hp : ∀ a, B.pin ≠ some (i, a)) : EnvOk B K F H (σ.set i (some v)) (ρ.set i (some l)) := by
  have fpo : ∀ j a, SFp (σ.set i (some v)) (ρ.set i (some l)) j a → SFp σ ρ j a := fun j a ⟨m, w, e1, e2, e3⟩ => by
    rcases set_cases e1 with ⟨rfl, _, e⟩ | ⟨n, e⟩
    · cases e
      cases l <;> first | exact (show False from e3).elim | cases hl
    · rw [List.getElem?_set_ne (Ne.symm n)] at e2
      exact ⟨m, w, e, e2, e3⟩
  refine ⟨E.st, by rw [List.length_set, List.length_set]; exact E.len, fun j l' e => ?_, fun j k a e1 e2 => E.sep j k a (fpo _ _ e1) (fpo _ _ e2), fun j a e => E.mine j a (fpo _ _ e), fun j b e => ?_⟩
  · rcases set_cases e with ⟨rfl, hj, e'⟩ | ⟨n, e'⟩
    · cases e'
      exact ⟨v, List.getElem?_set_self (by rw [E.len]; exact hj), hv⟩
    · rw [List.getElem?_set_ne (Ne.symm n)]
      exact E.sl j l' e'
  · have hj : j ≠ i := fun z => by subst z; exact hp b e
    rw [List.getElem?_set_ne (Ne.symm hj), List.getElem?_set_ne (Ne.symm hj)]
    exact E.pin j b e
/-- a slot takes new own things -/
theorem EnvOk.setN (E : EnvOk B K F H σ ρ) {i : Nat} {l : L} (hv : SlotOk K F H v l) (hf : ∀ a, LFp v l a → B.H0 a = none ∧ ∀ j, ¬ SFp σ ρ j a) (hp : ∀ a, B.pin ≠ some (i, a)) : EnvOk B K F H (σ.set i (some v)) (ρ.set i (some l)) := by
  have fpo : ∀ j a, SFp (σ.set i (some v)) (ρ.set i (some l)) j a → (j = i ∧ LFp v l a) ∨ (j ≠ i ∧ SFp σ ρ j a) := fun j a ⟨m, w, e1, e2, e3⟩ => by
    rcases set_cases e1 with ⟨rfl, hj, e⟩ | ⟨n, e⟩
    · cases e
      rw [List.getElem?_set_self (by rw [E.len]; exact hj)] at e2
      cases e2
      exact .inl ⟨rfl, e3⟩
    · rw [List.getElem?_set_ne (Ne.symm n)] at e2
      exact .inr ⟨n, m, w, e, e2, e3⟩
  refine ⟨E.st, by rw [List.length_set, List.length_set]; exact E.len, fun j l' e => ?_, fun j k a e1 e2 => ?_, fun j a e => ?_, fun j b e => ?_⟩
  · rcases set_cases e with ⟨rfl, hj, e'⟩ | ⟨n, e'⟩
    · cases e'
      exact ⟨v, List.getElem?_set_self (by rw [E.len]; exact hj), hv⟩
    · rw [List.getElem?_set_ne (Ne.symm n)]
      exact E.sl j l' e'
  · rcases fpo j a e1 with ⟨k1, q1⟩ | ⟨k1, q1⟩ <;> rcases fpo k a e2 with ⟨k2, q2⟩ | ⟨k2, q2⟩
    · exact k1.trans k2.symm
    · exact absurd q2 ((hf a q1).2 _)
    · exact absurd q1 ((hf a q2).2 _)
    · exact E.sep j k a q1 q2
  · rcases fpo j a e with ⟨_, q⟩ | ⟨_, q⟩
    · exact .inl (hf a q).1
    · exact E.mine j a q
  · have hj : j ≠ i := fun z => by subst z; exact hp b e
    rw [List.getElem?_set_ne (Ne.symm hj), List.getElem?_set_ne (Ne.symm hj)]
    exact E.pin j b e
theorem EnvOk.setO (E : EnvOk B K F H σ ρ) {i : Nat} {xs : List PyData} (hv : ROk B K F H σ ρ v (.new xs)) (hp : ∀ a, B.pin ≠ some (i, a)) : EnvOk B K F H (σ.set i (some v)) (ρ.set i (some (.own xs))) := by
  obtain ⟨a, vs, rfl, k1, k2, k3, k4, k5⟩ := hv
  exact E.setN ⟨a, vs, rfl, k1, k2, k3⟩ (fun b hb => by cases (show V.ref a = V.ref b from hb); exact ⟨k4, k5⟩) hp
theorem EnvOk.setND (E : EnvOk B K F H σ ρ) {i : Nat} {ks : List Key} {xs : List PyData} (hv : ROk B K F H σ ρ v (.newD ks xs)) (hp : ∀ a, B.pin ≠ some (i, a)) : EnvOk B K F H (σ.set i (some v)) (ρ.set i (some (.ownD ks xs))) := by
  obtain ⟨a, vs, rfl, k1, k2, hl, k3, k4, k5⟩ := hv
  exact E.setN ⟨a, vs, rfl, k1, k2, hl, k3⟩ (fun b hb => by cases (show V.ref a = V.ref b from hb); exact ⟨k4, k5⟩) hp
theorem EnvOk.setT (E : EnvOk B K F H σ ρ) {i : Nat} {t : OT} (hv : ROk B K F H σ ρ v (.deep t)) (hp : ∀ a, B.pin ≠ some (i, a)) : EnvOk B K F H (σ.set i (some v)) (ρ.set i (some (.deep t))) :=
  E.setN ⟨hv.1, hv.2.1⟩ (fun b hb => hv.2.2 b hb) hp
/-- a slot less known -/
theorem EnvOk.weak (E : EnvOk B K F H σ ρ) (hl : ρ'.length = ρ.length) (w : ∀ (i : Nat) (l : L), ρ'[i]? = some (some l) → ρ[i]? = some (some l)) (hp : ∀ (i : Nat) (a : Addr), B.pin = some (i, a) → ρ'[i]? = ρ[i]?) : EnvOk B K F H σ ρ' :=
  have fpo : ∀ j a, SFp σ ρ' j a → SFp σ ρ j a := fun j a ⟨m, u, e1, e2, e3⟩ => ⟨m, u, w _ _ e1, e2, e3⟩
  ⟨E.st, E.len.trans hl.symm, fun i l e => E.sl i l (w i l e), fun i j a e1 e2 => E.sep i j a (fpo _ _ e1) (fpo _ _ e2), fun i a e => E.mine i a (fpo _ _ e), fun i a e => by rw [hp i a e]; exact E.pin i a e⟩
theorem set_none {ρ : En} {i j : Nat} {l : L} (h : (ρ.set i none)[j]? = some (some l)) : j ≠ i ∧ ρ[j]? = some (some l) := by
  rcases set_cases h with ⟨_, _, e⟩ | q
  · cases e
  · exact q
/-- a slot forgotten -/
theorem EnvOk.forget (E : EnvOk B K F H σ ρ) {i : Nat} {o : Option V} (hp : ∀ a, B.pin ≠ some (i, a)) : EnvOk B K F H (σ.set i o) (ρ.set i none) := by
  have fpo : ∀ j a, SFp (σ.set i o) (ρ.set i none) j a → SFp σ ρ j a := fun j a ⟨m, u, e1, e2, e3⟩ => by
    obtain ⟨n, q⟩ := set_none e1
    rw [List.getElem?_set_ne (Ne.symm n)] at e2
    exact ⟨m, u, q, e2, e3⟩
  refine ⟨E.st, by rw [List.length_set, List.length_set]; exact E.len, fun j l' e => ?_, fun j k a e1 e2 => E.sep j k a (fpo _ _ e1) (fpo _ _ e2), fun j a e => E.mine j a (fpo _ _ e), fun j b e => ?_⟩
  · obtain ⟨n, q⟩ := set_none e
    rw [List.getElem?_set_ne (Ne.symm n)]
    exact E.sl j l' q
  · have hj : j ≠ i := fun z => by subst z; exact hp b e
    rw [List.getElem?_set_ne (Ne.symm hj), List.getElem?_set_ne (Ne.symm hj)]
    exact E.pin j b e
/-- the heap goes on, all that was there stays -/
structure Stp (F H F' H' : Hp) : Prop where
  ef : Ex F F'
  fh : Ex F' H'
  eh : Ex H H'
  nf : ∀ a, F a = none → H a ≠ none → F' a = none
theorem EnvOk.step (E : EnvOk B K F H σ ρ) (s : Stp F H F' H') : EnvOk B K F' H' σ ρ := by
  refine ⟨⟨E.st.f0.trans s.ef, s.fh, fun a u e n => s.eh a u (E.st.h0 a u e n), fun a h => ?_, fun a h1 h2 => s.nf a (E.st.nf a h1 h2) (E.st.th a h2)⟩, E.len, E.sl_mono s.ef fun i a h => ?_, E.sep, E.mine, E.pin⟩
  · cases q : H a with
    | none => exact absurd q (E.st.th a h)
    | some u => rw [s.eh a u q]; exact fun z => nomatch z
  · obtain ⟨k1, o, k2⟩ := E.live h
    exact ⟨s.nf a k1 (by rw [k2]; exact fun z => nomatch z), (s.eh a _ k2).trans k2.symm⟩
/-- free objects are frozen -/
def frz (F H : Hp) (as : List Addr) : Hp := fun a => if a ∈ as then H a else F a
theorem EnvOk.freeze (E : EnvOk B K F H σ ρ) {as : List Addr} (hf : Free B σ ρ as) (h0 : ∀ a, a ∈ as → F a = none) : EnvOk B K (frz F H as) H σ ρ ∧ Ex F (frz F H as) := by
  have ef : Ex F (frz F H as) := fun a u e => by
    unfold frz
    rw [if_neg fun z => by rw [h0 a z] at e; cases e]
    exact e
  refine ⟨⟨⟨E.st.f0.trans ef, fun b u e => ?_, E.st.h0, E.st.th, fun b h1 h2 => ?_⟩, E.len, E.sl_mono ef fun i a h => ⟨?_, rfl⟩, E.sep, E.mine, E.pin⟩, ef⟩
  · unfold frz at e
    split at e
    · exact e
    · exact E.fh b u e
  · unfold frz
    rw [if_neg fun z => h2 (hf b z).1]
    exact E.st.nf b h1 h2
  · unfold frz
    rw [if_neg fun z => (hf a z).2 i h]
    exact (E.live h).1
/-- a value is data: new things are frozen -/
theorem EnvOk.asD (E : EnvOk B K F H σ ρ) {r : R} {x : PyData} (hv : ROk B K F H σ ρ v r) (hx : r.toD = some x) : ∃ F', EnvOk B K F' H σ ρ ∧ Ex F F' ∧ Rp K F' v x := by
  cases r with
  | d y => cases hx; exact ⟨F, E, Ex.refl F, hv⟩
  | new xs =>
    cases hx
    obtain ⟨a, vs, rfl, k1, k2, k3, k4, k5⟩ := hv
    obtain ⟨E', ef⟩ := E.freeze (as := [a]) (fun b hb => by rw [List.mem_singleton.mp hb]; exact ⟨k4, k5⟩) fun b hb => by rw [List.mem_singleton.mp hb]; exact k1
    refine ⟨_, E', ef, .lst ?_ (k3.mono ef)⟩
    unfold frz
    rw [if_pos List.mem_cons_self]
    exact k2
  | scr ns => cases hx
  | raw w => cases hx
  | newD ks xs => cases hx
  | deep t =>
    obtain ⟨k1, k2, k3⟩ := hv
    unfold R.toD at hx
    by_cases c : t.isD = true
    · simp only [c, if_true] at hx
      cases hx
      obtain ⟨E', ef⟩ := E.freeze k3 fun a ha => (k1.live ha).1
      exact ⟨_, E', ef, k1.rp ef c fun a ha => by unfold frz; rw [if_pos ha]⟩
    · simp only [c] at hx
      cases hx
end
end SV

set_option maxHeartbeats 1000000
namespace SV
open PySem PySem.Spec L2
open Evl (Ex)

/-! ### judgements -/
inductive Ar where
  | d (x : PyData)
  | scr (ns : List Int)
  | raw (v : V)
  | own (j : Nat)
def R.toA : R → Option Ar
  | .d x => some (.d x)
  | .new xs => some (.d (.list xs))
  | .scr ns => some (.scr ns)
  | .raw v => some (.raw v)
  | .deep t => if t.isD = true then some (.d t.data) else none
  | .newD _ _ => none
def AOk (K : Fr) (F : Hp) (σ : St) (v : V) : Ar → Prop
  | .d x => Rp K F v x
  | .scr ns => ∃ a, v = .ref a ∧ SqL K F a (ns.map V.int)
  | .raw w => v = w
  | .own j => σ[j]? = some (some v)
inductive AOks (K : Fr) (F : Hp) (σ : St) : List V → List Ar → Prop
  | nil : AOks K F σ [] []
  | cons {v : V} {vs : List V} {a : Ar} {as : List Ar} : AOk K F σ v a → AOks K F σ vs as → AOks K F σ (v :: vs) (a :: as)
theorem AOk.mono {K : Fr} {F F' : Hp} {σ : St} {v : V} {a : Ar} (e : Ex F F') (h : AOk K F σ v a) : AOk K F' σ v a := by
  cases a with
  | d x => exact Rp.mono e h
  | scr ns => obtain ⟨a, q, s⟩ := h; exact ⟨a, q, e.sl s⟩
  | raw w => exact h
  | own j => exact h
def WE (B : Bs) (K : Fr) (te : TE) (ρ : En) (Q : R → En → Prop) : Prop := ∀ F H σ, EnvOk B K F H σ ρ → ∀ QQ : VK, (∀ v r F' H' ρ', EnvOk B K F' H' σ ρ' → Ex F F' → ROk B K F' H' σ ρ' v r → Q r ρ' → QQ v H') → te σ H QQ
def WD (B : Bs) (K : Fr) (te : TE) (ρ : En) (Q : PyData → En → Prop) : Prop := ∀ F H σ, EnvOk B K F H σ ρ → ∀ QQ : VK, (∀ v x F' H' ρ', EnvOk B K F' H' σ ρ' → Ex F F' → Rp K F' v x → Q x ρ' → QQ v H') → te σ H QQ
def WT (B : Bs) (K : Fr) (tt : TT) (ρ : En) (Q : Bool → En → Prop) : Prop := ∀ F H σ, EnvOk B K F H σ ρ → ∀ QQ : Bool → Hp → Prop, (∀ b F' H' ρ', EnvOk B K F' H' σ ρ' → Ex F F' → Q b ρ' → QQ b H') → tt σ H QQ
def WA (B : Bs) (K : Fr) (ta : TA) (ρ : En) (Q : List Ar → En → Prop) : Prop := ∀ F H σ, EnvOk B K F H σ ρ → ∀ QQ : List V → Hp → Prop, (∀ vs as F' H' ρ', EnvOk B K F' H' σ ρ' → Ex F F' → AOks K F' σ vs as → Q as ρ' → QQ vs H') → ta σ H QQ
def WO (B : Bs) (K : Fr) (to : TO) (ρ : En) (Q : Option Int → En → Prop) : Prop := ∀ F H σ, EnvOk B K F H σ ρ → ∀ QQ : Option Int → Hp → Prop, (∀ o F' H' ρ', EnvOk B K F' H' σ ρ' → Ex F F' → Q o ρ' → QQ o H') → to σ H QQ
structure Zs where
  nx : En → Prop
  rt : R → En → Prop
  bk : En → Prop := fun _ => False
  ct : En → Prop := fun _ => False
/-- another next; a loop's turn -/
abbrev Zs.sq (Z : Zs) (n : En → Prop) : Zs := ⟨n, Z.rt, Z.bk, Z.ct⟩
abbrev Zs.lp (Z : Zs) (n : En → Prop) : Zs := ⟨n, Z.rt, Z.nx, n⟩
structure ZOk (B : Bs) (K : Fr) (F0 : Hp) (Z : Zs) (D : Ends) : Prop where
  nx : ∀ F H σ ρ, EnvOk B K F H σ ρ → Ex F0 F → Z.nx ρ → D.nx σ H
  rt : ∀ F H σ ρ v r, EnvOk B K F H σ ρ → Ex F0 F → ROk B K F H σ ρ v r → Z.rt r ρ → D.rt v H
  bk : ∀ F H σ ρ, EnvOk B K F H σ ρ → Ex F0 F → Z.bk ρ → D.bk σ H
  ct : ∀ F H σ ρ, EnvOk B K F H σ ρ → Ex F0 F → Z.ct ρ → D.ct σ H
theorem ZOk.up {B : Bs} {K : Fr} {F0 F1 : Hp} {Z : Zs} {D : Ends} (ok : ZOk B K F0 Z D) (e : Ex F0 F1) : ZOk B K F1 Z D :=
  ⟨fun F H σ ρ E e' => ok.nx F H σ ρ E (e.trans e'), fun F H σ ρ v r E e' => ok.rt F H σ ρ v r E (e.trans e'), fun F H σ ρ E e' => ok.bk F H σ ρ E (e.trans e'), fun F H σ ρ E e' => ok.ct F H σ ρ E (e.trans e')⟩
def WS (B : Bs) (K : Fr) (ts : TS) (ρ : En) (Z : Zs) : Prop := ∀ F H σ, EnvOk B K F H σ ρ → ∀ D : Ends, ZOk B K F Z D → ts D σ H

section
variable {B : Bs} {K : Fr} {ρ : En} {ta tb te : TE} {tt : TT} {tr tl : TA} {Q : R → En → Prop} {QD : PyData → En → Prop} {QT : Bool → En → Prop} {QA : List Ar → En → Prop} {QO : Option Int → En → Prop}

/-! ### between them -/
theorem we_d (h : WD B K te ρ fun x ρ' => Q (.d x) ρ') : WE B K te ρ Q := fun F H σ E QQ k =>
  h F H σ E QQ fun v x F' H' ρ' E' ef r q => k v (.d x) F' H' ρ' E' ef r q
theorem wd_e (h : WE B K te ρ fun r ρ' => ∃ x, r.toD = some x ∧ QD x ρ') : WD B K te ρ QD := fun F H σ E QQ k =>
  h F H σ E QQ fun v r F' H' ρ' E' ef rv ⟨x, hx, q⟩ => by
    obtain ⟨F2, E2, e2, r2⟩ := E'.asD rv hx
    exact k v x F2 H' ρ' E2 (ef.trans e2) r2 q
theorem we_mono {Q' : R → En → Prop} (h : WE B K te ρ Q') (i : ∀ r ρ', Q' r ρ' → Q r ρ') : WE B K te ρ Q := fun F H σ E QQ k =>
  h F H σ E QQ fun v r F' H' ρ' E' ef rv q => k v r F' H' ρ' E' ef rv (i r ρ' q)
theorem wd_mono {Q' : PyData → En → Prop} (h : WD B K te ρ Q') (i : ∀ r ρ', Q' r ρ' → QD r ρ') : WD B K te ρ QD := fun F H σ E QQ k =>
  h F H σ E QQ fun v r F' H' ρ' E' ef rv q => k v r F' H' ρ' E' ef rv (i r ρ' q)

/-! ### names, constants -/
theorem wd_var {i : Nat} {x : PyData} (h : ρ[i]? = some (some (.d x))) (q : QD x ρ) : WD B K (tVar i) ρ QD := fun F H σ E QQ k => by
  obtain ⟨v, e, s⟩ := E.sl i _ h
  exact ⟨v, e, k v x F H ρ E (Ex.refl F) s q⟩
theorem we_scr {i : Nat} {ns : List Int} (h : ρ[i]? = some (some (.scr ns))) (q : Q (.scr ns) ρ) : WE B K (tVar i) ρ Q := fun F H σ E QQ k => by
  obtain ⟨v, e, s⟩ := E.sl i _ h
  exact ⟨v, e, k v (.scr ns) F H ρ E (Ex.refl F) s q⟩
theorem we_rawv {i : Nat} {w : V} (h : ρ[i]? = some (some (.raw w))) (q : Q (.raw w) ρ) : WE B K (tVar i) ρ Q := fun F H σ E QQ k => by
  obtain ⟨v, e, s⟩ := E.sl i _ h
  exact ⟨v, e, k v (.raw w) F H ρ E (Ex.refl F) s q⟩
theorem wd_int {i : Int} (q : QD (.int i) ρ) : WD B K (tC (.int i)) ρ QD := fun F H σ E QQ k => k _ _ F H ρ E (Ex.refl F) (.int i) q
theorem wd_bl {b : Bool} (q : QD (.bool b) ρ) : WD B K (tC (.bl b)) ρ QD := fun F H σ E QQ k => k _ _ F H ρ E (Ex.refl F) (.bl b) q
theorem wd_str {s : Str} (q : QD (.str s) ρ) : WD B K (tC (.str s)) ρ QD := fun F H σ E QQ k => k _ _ F H ρ E (Ex.refl F) (.str s) q
theorem wd_non (q : QD .none ρ) : WD B K (tC .non) ρ QD := fun F H σ E QQ k => k _ _ F H ρ E (Ex.refl F) .non q
theorem we_raw {w : V} (q : Q (.raw w) ρ) : WE B K (tC w) ρ Q := fun F H σ E QQ k => k _ (.raw w) F H ρ E (Ex.refl F) rfl q

/-! ### arguments -/
theorem wa_nil (q : QA [] ρ) : WA B K tNil ρ QA := fun F H σ E QQ k => k [] [] F H ρ E (Ex.refl F) .nil q
theorem wa_e (h : WE B K te ρ fun r ρ1 => ∃ a, r.toA = some a ∧ WA B K tr ρ1 fun as ρ2 => QA (a :: as) ρ2) : WA B K (tCons te tr) ρ QA := fun F H σ E QQ k =>
  h F H σ E _ fun v r F1 H1 ρ1 E1 e1 rv ⟨a, ha, q⟩ => by
    have key : ∃ F2, EnvOk B K F2 H1 σ ρ1 ∧ Ex F1 F2 ∧ AOk K F2 σ v a := by
      cases r with
      | d x => cases ha; exact ⟨F1, E1, Ex.refl F1, rv⟩
      | new xs => cases ha; exact E1.asD (r := .new xs) rv rfl
      | scr ns => cases ha; exact ⟨F1, E1, Ex.refl F1, rv⟩
      | raw w => cases ha; exact ⟨F1, E1, Ex.refl F1, rv⟩
      | newD ks xs => cases ha
      | deep t =>
        unfold R.toA at ha
        by_cases c : t.isD = true
        · simp only [c, if_true] at ha
          cases ha
          exact E1.asD (r := .deep t) rv (by unfold R.toD; simp only [c, if_true])
        · simp only [c] at ha
          cases ha
    obtain ⟨F2, E2, e2, av⟩ := key
    exact q F2 H1 σ E2 _ fun vs as F3 H3 ρ3 E3 e3 as' q3 => k (v :: vs) (a :: as) F3 H3 ρ3 E3 ((e1.trans e2).trans e3) (.cons (av.mono e3) as') q3
theorem wa_d (h : WD B K te ρ fun x ρ1 => WA B K tr ρ1 fun as ρ2 => QA (.d x :: as) ρ2) : WA B K (tCons te tr) ρ QA := fun F H σ E QQ k =>
  h F H σ E _ fun v x F1 H1 ρ1 E1 e1 rv q => q F1 H1 σ E1 _ fun vs as F3 H3 ρ3 E3 e3 as' q3 => k (v :: vs) (.d x :: as) F3 H3 ρ3 E3 (e1.trans e3) (.cons (AOk.mono (a := .d x) e3 rv) as') q3
theorem wa_own {j : Nat} {xs : List PyData} (h : ρ[j]? = some (some (.own xs))) (q : WA B K tr ρ fun as ρ2 => QA (.own j :: as) ρ2) : WA B K (tCons (tVar j) tr) ρ QA := fun F H σ E QQ k => by
  obtain ⟨a, vs, e, _⟩ := E.own_at h
  exact ⟨.ref a, e, q F H σ E _ fun vs as F3 H3 ρ3 E3 e3 as' q3 => k _ _ F3 H3 ρ3 E3 e3 (.cons (a := .own j) e as') q3⟩
/-- all arguments data -/
def WDs (B : Bs) (K : Fr) (ta : TA) (ρ : En) (Q : List PyData → En → Prop) : Prop := ∀ F H σ, EnvOk B K F H σ ρ → ∀ QQ : List V → Hp → Prop, (∀ vs xs F' H' ρ', EnvOk B K F' H' σ ρ' → Ex F F' → RpA K F' vs xs → Q xs ρ' → QQ vs H') → ta σ H QQ
theorem wds_nil {QL : List PyData → En → Prop} (q : QL [] ρ) : WDs B K tNil ρ QL := fun F H σ E QQ k => k [] [] F H ρ E (Ex.refl F) .nil q
theorem wds_cons {QL : List PyData → En → Prop} (h : WD B K te ρ fun x ρ1 => WDs B K tr ρ1 fun xs ρ2 => QL (x :: xs) ρ2) : WDs B K (tCons te tr) ρ QL := fun F H σ E QQ k =>
  h F H σ E _ fun v x F1 H1 ρ1 E1 e1 rv q => q F1 H1 σ E1 _ fun vs as F3 H3 ρ3 E3 e3 as' q3 => k (v :: vs) (x :: as) F3 H3 ρ3 E3 (e1.trans e3) (.cons (Rp.mono e3 rv) as') q3

/-! ### displays -/
def lim : Nat := 1000000
theorem lim_le {n : Nat} (h : n ≤ lim) : n ≤ sizeLine := Nat.le_trans h (by decide)
theorem lim_lt {n : Nat} (h : n < lim) : n < sizeLine := Nat.lt_of_lt_of_le h (by decide)
theorem we_lst (h : WDs B K tl ρ fun xs ρ' => xs.length ≤ lim ∧ Q (.new xs) ρ') : WE B K (tLst tl) ρ Q := fun F H σ E QQ k =>
  h F H σ E _ fun vs xs F1 H1 ρ1 E1 e1 rv ⟨hz, q⟩ => ⟨by rw [rv.length]; exact lim_le hz, fun p hp => by
    have E2 := E1.allocO (o := .lst vs) hp
    exact k _ (.new xs) F1 _ ρ1 E2 e1 ⟨p, vs, rfl, E1.fh.free hp, upd_same, rv, E1.h0p hp, fun i => E1.fr hp i⟩ q⟩
theorem wd_tup (h : WDs B K tl ρ fun xs ρ' => xs.length ≤ lim ∧ QD (.tuple xs) ρ') : WD B K (tTup tl) ρ QD := fun F H σ E QQ k =>
  h F H σ E _ fun vs xs F1 H1 ρ1 E1 e1 rv ⟨hz, q⟩ => ⟨by rw [rv.length]; exact lim_le hz, fun p hp => by
    obtain ⟨E2, e2⟩ := E1.alloc (o := .tup vs) hp
    exact k _ _ _ _ ρ1 E2 (e1.trans e2) (.tup (.inl (.inl upd_same)) (rv.mono e2)) q⟩
/-- new objects made by value rules -/
theorem new_ok {F H : Hp} {σ : St} {ρ : En} (E : EnvOk B K F H σ ρ) {p : Addr} {vs : List V} {xs : List PyData} (hp : H p = none) (rv : RpA K F vs xs) :
    EnvOk B K F (upd H p (.lst vs)) σ ρ ∧ ROk B K F (upd H p (.lst vs)) σ ρ (.ref p) (.new xs) := by
  exact ⟨E.allocO hp, p, vs, rfl, E.fh.free hp, upd_same, rv, E.h0p hp, fun i => E.fr hp i⟩

/-! ### operators -/
abbrev rPlus (K : Fr) : R2 := fun x y H Q => (rI0 fun i j => .int (i + j)) x y H Q ∨ (∃ i j, x = .str i ∧ y = .str j ∧ i.length + j.length ≤ sizeLine ∧ Q (.str (i ++ j)) H) ∨ rCat x y H Q ∨ rCatA K x y H Q
theorem op_plus {X : Cx} : OpR X (binaryOp .Add) (rPlus X.K) := op_add.or (op_add_str.or (op_cat.or op_catA))
def Plus : PyData → PyData → (R → Prop) → Prop
  | .int i, .int j, k => k (.d (.int (i + j)))
  | .str s, .str t, k => s.length + t.length ≤ lim ∧ k (.d (.str (s ++ t)))
  | .list xs, .list ys, k => xs.length + ys.length ≤ lim ∧ k (.new (xs ++ ys))
  | _, _, _ => False
theorem we_plus (h : WD B K ta ρ fun x ρ1 => WD B K tb ρ1 fun y ρ2 => Plus x y fun r => Q r ρ2) : WE B K (tOp (rPlus K) ta tb) ρ Q := fun F H σ E QQ k =>
  h F H σ E _ fun v x F1 H1 ρ1 E1 e1 rv q => q F1 H1 σ E1 _ fun u y F2 H2 ρ2 E2 e2 ru q2 => by
    have e12 := e1.trans e2
    have rv' := Rp.mono e2 rv
    cases x <;> cases y <;> try exact False.elim q2
    · cases rv; cases ru
      exact .inl ⟨_, _, rfl, rfl, k _ (.d (.int _)) F2 H2 ρ2 E2 e12 (Rp.int _) q2⟩
    · cases rv; cases ru
      exact .inr (.inl ⟨_, _, rfl, rfl, lim_le q2.1, k _ (.d (.str _)) F2 H2 ρ2 E2 e12 (Rp.str _) q2.2⟩)
    · cases rv' with
      | @lst a vs xs ha ra =>
      cases ru with
      | @lst b ws ys hb rb =>
      refine .inr (.inr (.inl ⟨a, b, vs, ws, rfl, rfl, E2.fh _ _ ha, E2.fh _ _ hb, by rw [ra.length, rb.length]; exact lim_le q2.1, fun p hp => ?_⟩))
      obtain ⟨E3, r3⟩ := new_ok E2 hp (ra.append rb)
      exact k _ _ F2 _ ρ2 E3 e12 r3 q2.2
theorem wd_sub (h : WD B K ta ρ fun x ρ1 => ∃ i, x = .int i ∧ WD B K tb ρ1 fun y ρ2 => ∃ j, y = .int j ∧ QD (.int (i - j)) ρ2) : WD B K (tOp (rI0 fun i j => .int (i - j)) ta tb) ρ QD := fun F H σ E QQ k =>
  h F H σ E _ fun v x F1 H1 ρ1 E1 e1 rv ⟨i, hx, q⟩ => q F1 H1 σ E1 _ fun u y F2 H2 ρ2 E2 e2 ru ⟨j, hy, q2⟩ => by
    subst hx hy
    cases rv; cases ru
    exact ⟨i, j, rfl, rfl, k _ _ F2 H2 ρ2 E2 (e1.trans e2) (.int _) q2⟩
theorem wd_iop {C : Int → Int → Prop} {g : Int → Int → Int} (h : WD B K ta ρ fun x ρ1 => ∃ i, x = .int i ∧ WD B K tb ρ1 fun y ρ2 => ∃ j, y = .int j ∧ C i j ∧ QD (.int (g i j)) ρ2) : WD B K (tOp (rI C fun i j => .int (g i j)) ta tb) ρ QD := fun F H σ E QQ k =>
  h F H σ E _ fun v x F1 H1 ρ1 E1 e1 rv ⟨i, hx, q⟩ => q F1 H1 σ E1 _ fun u y F2 H2 ρ2 E2 e2 ru ⟨j, hy, hc, q2⟩ => by
    subst hx hy
    cases rv; cases ru
    exact ⟨i, j, rfl, rfl, hc, k _ _ F2 H2 ρ2 E2 (e1.trans e2) (.int _) q2⟩
theorem wd_neg (h : WD B K ta ρ fun x ρ1 => ∃ i, x = .int i ∧ QD (.int (-i)) ρ1) : WD B K (tUn (rU fun i => .int (-i)) ta) ρ QD := fun F H σ E QQ k =>
  h F H σ E _ fun v x F1 H1 ρ1 E1 e1 rv ⟨i, hx, q⟩ => by
    subst hx
    cases rv
    exact ⟨i, rfl, k _ _ F1 H1 ρ1 E1 e1 (.int _) q⟩
/-- list * int -/
theorem we_rep (h : WD B K ta ρ fun x ρ1 => ∃ xs, x = .list xs ∧ WD B K tb ρ1 fun y ρ2 => ∃ j, y = .int j ∧ 0 ≤ j ∧ j ≤ 1000000 ∧ xs.length * j.toNat ≤ lim ∧ Q (.new (List.replicate j.toNat xs).flatten) ρ2) : WE B K (tOp rRep ta tb) ρ Q := fun F H σ E QQ k =>
  h F H σ E _ fun v x F1 H1 ρ1 E1 e1 rv ⟨xs, hx, q⟩ => q F1 H1 σ E1 _ fun u y F2 H2 ρ2 E2 e2 ru ⟨j, hy, j0, j1, hl, q2⟩ => by
    subst hx hy
    have rv' := Rp.mono e2 rv
    cases ru
    cases rv' with
    | @lst a vs xs ha ra =>
    refine ⟨a, j, vs, rfl, rfl, E2.fh _ _ ha, by omega, by omega, by rw [ra.length]; exact lim_le hl, fun p hp => ?_⟩
    obtain ⟨E3, r3⟩ := new_ok E2 hp (ra.rep _)
    exact k _ _ F2 _ ρ2 E3 (e1.trans e2) r3 q2

/-! ### comparisons -/
theorem wd_lt {p : Int → Int → Bool} (h : WD B K ta ρ fun x ρ1 => ∃ i, x = .int i ∧ WD B K tb ρ1 fun y ρ2 => ∃ j, y = .int j ∧ QD (.bool (p i j)) ρ2) : WD B K (tOp (rI0 fun i j => .bl (p i j)) ta tb) ρ QD := fun F H σ E QQ k =>
  h F H σ E _ fun v x F1 H1 ρ1 E1 e1 rv ⟨i, hx, q⟩ => q F1 H1 σ E1 _ fun u y F2 H2 ρ2 E2 e2 ru ⟨j, hy, q2⟩ => by
    subst hx hy
    cases rv; cases ru
    exact ⟨i, j, rfl, rfl, k _ _ F2 H2 ρ2 E2 (e1.trans e2) (.bl _) q2⟩
/-- == and != of data -/
theorem wd_eqD (h : WD B K ta ρ fun x ρ1 => WD B K tb ρ1 fun y ρ2 => (noD x = true ∧ noD y = true ∧ SeqAt.shaped x = true ∧ SeqAt.shaped y = true) ∧ QD (.bool (PyData.eqv x y)) ρ2) : WD B K (tOp (rEqD K) ta tb) ρ QD := fun F H σ E QQ k =>
  h F H σ E _ fun v x F1 H1 ρ1 E1 e1 rv q => q F1 H1 σ E1 _ fun u y F2 H2 ρ2 E2 e2 ru ⟨⟨n1, n2, s1, s2⟩, q2⟩ =>
    ⟨x, y, Rp.dp E2.fh (Rp.mono e2 rv) n1, Rp.dp E2.fh ru n2, s1, s2, k _ _ F2 H2 ρ2 E2 (e1.trans e2) (.bl _) q2⟩
theorem wd_neD (h : WD B K ta ρ fun x ρ1 => WD B K tb ρ1 fun y ρ2 => (noD x = true ∧ noD y = true ∧ SeqAt.shaped x = true ∧ SeqAt.shaped y = true) ∧ QD (.bool (!PyData.eqv x y)) ρ2) : WD B K (tOp (rNeD K) ta tb) ρ QD := fun F H σ E QQ k =>
  h F H σ E _ fun v x F1 H1 ρ1 E1 e1 rv q => q F1 H1 σ E1 _ fun u y F2 H2 ρ2 E2 e2 ru ⟨⟨n1, n2, s1, s2⟩, q2⟩ =>
    ⟨x, y, Rp.dp E2.fh (Rp.mono e2 rv) n1, Rp.dp E2.fh ru n2, s1, s2, k _ _ F2 H2 ρ2 E2 (e1.trans e2) (.bl _) q2⟩
/-- own == data, own != data -/
theorem own_dp {F H : Hp} {σ : St} (E : EnvOk B K F H σ ρ) {i : Nat} {xs : List PyData} (h : ρ[i]? = some (some (.own xs))) (n : noDs xs = true) {v : V} (hv : σ[i]? = some (some v)) : Dp K H v (.list xs) := by
  obtain ⟨a, vs, e, _, k2, k3⟩ := E.own_at h
  rw [hv] at e
  cases e
  exact .lst (.inl (.inl k2)) (RpA.dp E.fh k3 n)
theorem wd_eqO {i : Nat} {zs : List PyData} (hi : ρ[i]? = some (some (.own zs))) (h : WD B K tb ρ fun y ρ2 => ∃ xs, ρ2[i]? = some (some (.own xs)) ∧ (noDs xs = true ∧ noD y = true ∧ SeqAt.shaped (.list xs) = true ∧ SeqAt.shaped y = true) ∧ QD (.bool (PyData.eqv (.list xs) y)) ρ2) : WD B K (tOp (rEqD K) (tVar i) tb) ρ QD := fun F H σ E QQ k => by
  obtain ⟨a, vs, e, _⟩ := E.own_at hi
  exact ⟨.ref a, e, h F H σ E _ fun u y F2 H2 ρ2 E2 e2 ru ⟨xs, hx, ⟨n1, n2, s1, s2⟩, q2⟩ => ⟨_, y, own_dp E2 hx n1 e, Rp.dp E2.fh ru n2, s1, s2, k _ _ F2 H2 ρ2 E2 e2 (.bl _) q2⟩⟩
theorem wd_neO {i : Nat} {zs : List PyData} (hi : ρ[i]? = some (some (.own zs))) (h : WD B K tb ρ fun y ρ2 => ∃ xs, ρ2[i]? = some (some (.own xs)) ∧ (noDs xs = true ∧ noD y = true ∧ SeqAt.shaped (.list xs) = true ∧ SeqAt.shaped y = true) ∧ QD (.bool (!PyData.eqv (.list xs) y)) ρ2) : WD B K (tOp (rNeD K) (tVar i) tb) ρ QD := fun F H σ E QQ k => by
  obtain ⟨a, vs, e, _⟩ := E.own_at hi
  exact ⟨.ref a, e, h F H σ E _ fun u y F2 H2 ρ2 E2 e2 ru ⟨xs, hx, ⟨n1, n2, s1, s2⟩, q2⟩ => ⟨_, y, own_dp E2 hx n1 e, Rp.dp E2.fh ru n2, s1, s2, k _ _ F2 H2 ρ2 E2 e2 (.bl _) q2⟩⟩
def isNon : PyData → Bool
  | .none => true
  | _ => false
/-- is None -/
theorem wd_isN (h : WD B K ta ρ fun x ρ1 => QD (.bool (isNon x)) ρ1) : WD B K (tIsN ta) ρ QD := fun F H σ E QQ k =>
  h F H σ E _ fun v x F1 H1 ρ1 E1 e1 rv q => by
    have e : V.bl (decide (v = .non)) = V.bl (isNon x) := by cases rv <;> rfl
    rw [e]
    exact k _ _ F1 H1 ρ1 E1 e1 (.bl _) q
theorem wd_notN (h : WD B K ta ρ fun x ρ1 => QD (.bool (!isNon x)) ρ1) : WD B K (tNotN ta) ρ QD := fun F H σ E QQ k =>
  h F H σ E _ fun v x F1 H1 ρ1 E1 e1 rv q => by
    have e : V.bl (!decide (v = .non)) = V.bl (!isNon x) := by cases rv <;> rfl
    rw [e]
    exact k _ _ F1 H1 ρ1 E1 e1 (.bl _) q

/-! ### tests -/
theorem wt_test (h : WD B K te ρ fun x ρ1 => ∃ b, x = .bool b ∧ QT b ρ1) : WT B K (tTest te) ρ QT := fun F H σ E QQ k =>
  h F H σ E _ fun v x F1 H1 ρ1 E1 e1 rv ⟨b, hx, q⟩ => by
    subst hx
    cases rv
    exact ⟨b, rfl, k b F1 H1 ρ1 E1 e1 q⟩
theorem wt_B (h : WD B K te ρ fun x ρ1 => ∃ b, x = .bool b ∧ QT b ρ1) : WT B K (tB te) ρ QT := fun F H σ E QQ k =>
  h F H σ E _ fun v x F1 H1 ρ1 E1 e1 rv ⟨b, hx, q⟩ => by
    subst hx
    cases rv
    exact ⟨b, rfl, k b F1 H1 ρ1 E1 e1 q⟩
theorem wt_and {t u : TT} (h : WT B K t ρ fun b ρ1 => (b = true → WT B K u ρ1 QT) ∧ (b = false → QT false ρ1)) : WT B K (tAnd t u) ρ QT := fun F H σ E QQ k =>
  h F H σ E _ fun b F1 H1 ρ1 E1 e1 q => by
    cases b with
    | true => exact q.1 rfl F1 H1 σ E1 _ fun b F2 H2 ρ2 E2 e2 q2 => k b F2 H2 ρ2 E2 (e1.trans e2) q2
    | false => exact k false F1 H1 ρ1 E1 e1 (q.2 rfl)
theorem wt_or {t u : TT} (h : WT B K t ρ fun b ρ1 => (b = true → QT true ρ1) ∧ (b = false → WT B K u ρ1 QT)) : WT B K (tOr t u) ρ QT := fun F H σ E QQ k =>
  h F H σ E _ fun b F1 H1 ρ1 E1 e1 q => by
    cases b with
    | false => exact q.2 rfl F1 H1 σ E1 _ fun b F2 H2 ρ2 E2 e2 q2 => k b F2 H2 ρ2 E2 (e1.trans e2) q2
    | true => exact k true F1 H1 ρ1 E1 e1 (q.1 rfl)
theorem wt_not {t : TT} (h : WT B K t ρ fun b ρ1 => QT (!b) ρ1) : WT B K (tNot t) ρ QT := fun F H σ E QQ k =>
  h F H σ E _ fun b F1 H1 ρ1 E1 e1 q => k (!b) F1 H1 ρ1 E1 e1 q
theorem wt_mono {t : TT} {Q' : Bool → En → Prop} (h : WT B K t ρ Q') (i : ∀ b ρ', Q' b ρ' → QT b ρ') : WT B K t ρ QT := fun F H σ E QQ k =>
  h F H σ E QQ fun v F' H' ρ' E' ef q => k v F' H' ρ' E' ef (i v ρ' q)
theorem wd_andV (h : WD B K ta ρ fun x ρ1 => ∃ b, x = .bool b ∧ (b = true → WD B K tb ρ1 QD) ∧ (b = false → QD (.bool false) ρ1)) : WD B K (tAndV ta tb) ρ QD := fun F H σ E QQ k =>
  h F H σ E _ fun v x F1 H1 ρ1 E1 e1 rv ⟨b, hx, q⟩ => by
    subst hx
    cases rv
    refine ⟨b, rfl, ?_⟩
    cases b with
    | true => exact q.1 rfl F1 H1 σ E1 _ fun v x F2 H2 ρ2 E2 e2 r2 q2 => k v x F2 H2 ρ2 E2 (e1.trans e2) r2 q2
    | false => exact k _ _ F1 H1 ρ1 E1 e1 (.bl false) (q.2 rfl)
theorem wd_orV (h : WD B K ta ρ fun x ρ1 => ∃ b, x = .bool b ∧ (b = true → QD (.bool true) ρ1) ∧ (b = false → WD B K tb ρ1 QD)) : WD B K (tOrV ta tb) ρ QD := fun F H σ E QQ k =>
  h F H σ E _ fun v x F1 H1 ρ1 E1 e1 rv ⟨b, hx, q⟩ => by
    subst hx
    cases rv
    refine ⟨b, rfl, ?_⟩
    cases b with
    | false => exact q.2 rfl F1 H1 σ E1 _ fun v x F2 H2 ρ2 E2 e2 r2 q2 => k v x F2 H2 ρ2 E2 (e1.trans e2) r2 q2
    | true => exact k _ _ F1 H1 ρ1 E1 e1 (.bl true) (q.1 rfl)
theorem wd_notV (h : WD B K ta ρ fun x ρ1 => ∃ b, x = .bool b ∧ QD (.bool (!b)) ρ1) : WD B K (tNotV ta) ρ QD := fun F H σ E QQ k =>
  h F H σ E _ fun v x F1 H1 ρ1 E1 e1 rv ⟨b, hx, q⟩ => by
    subst hx
    cases rv
    exact ⟨b, rfl, k _ _ F1 H1 ρ1 E1 e1 (.bl _) q⟩
theorem we_if (h : WT B K tt ρ fun b ρ1 => (b = true → WE B K ta ρ1 Q) ∧ (b = false → WE B K tb ρ1 Q)) : WE B K (tIf tt ta tb) ρ Q := fun F H σ E QQ k =>
  h F H σ E _ fun b F1 H1 ρ1 E1 e1 q => by
    cases b with
    | true => exact q.1 rfl F1 H1 σ E1 _ fun v r F2 H2 ρ2 E2 e2 r2 q2 => k v r F2 H2 ρ2 E2 (e1.trans e2) r2 q2
    | false => exact q.2 rfl F1 H1 σ E1 _ fun v r F2 H2 ρ2 E2 e2 r2 q2 => k v r F2 H2 ρ2 E2 (e1.trans e2) r2 q2

/-! ### subscripts -/
def Idx : PyData → PyData → (PyData → Prop) → Prop
  | .list xs, .int i, k => ∃ d, atI xs i = some d ∧ k d
  | .tuple xs, .int i, k => ∃ d, atI xs i = some d ∧ k d
  | .str z, .int i, k => z.length ≤ lim ∧ ∃ c, atI z.cps.toList i = some c ∧ k (.str ⟨#[c]⟩)
  | _, _, _ => False
theorem RpA.at {F : Hp} {vs : List V} {xs : List PyData} {i : Int} {d : PyData} (r : RpA K F vs xs) (h : atI xs i = some d) : ∃ v, atI vs i = some v ∧ Rp K F v d := by
  unfold atI at h ⊢
  rw [r.length]
  cases e : ixN xs.length i with
  | none => rw [e] at h; cases h
  | some j =>
    rw [e] at h
    obtain ⟨v, hv, q⟩ := r.get' (i := j) h
    exact ⟨v, hv, q⟩
theorem wd_ix (h : WD B K ta ρ fun x ρ1 => WD B K tb ρ1 fun y ρ2 => Idx x y fun z => QD z ρ2) : WD B K (tOp (rIx K) ta tb) ρ QD := fun F H σ E QQ k =>
  h F H σ E _ fun v x F1 H1 ρ1 E1 e1 rv q => q F1 H1 σ E1 _ fun u y F2 H2 ρ2 E2 e2 ru q2 => by
    have e12 := e1.trans e2
    have rv' := Rp.mono e2 rv
    cases x <;> cases y <;> try exact False.elim q2
    · cases rv'; cases ru
      obtain ⟨hz, c, hc, q3⟩ := q2
      exact .inr (.inr ⟨_, _, c, rfl, rfl, lim_le hz, hc, k _ _ F2 H2 ρ2 E2 e12 (.str _) q3⟩)
    · cases ru
      obtain ⟨d, hd, q3⟩ := q2
      cases rv' with
      | @lst a vs xs ha ra =>
      obtain ⟨w, hw, rw'⟩ := ra.at hd
      exact .inl ⟨a, vs, _, w, rfl, rfl, .inl (.inl (E2.fh _ _ ha)), hw, k _ _ F2 H2 ρ2 E2 e12 rw' q3⟩
    · cases ru
      obtain ⟨d, hd, q3⟩ := q2
      cases rv' with
      | @tup a vs xs ha ra =>
      obtain ⟨w, hw, rw'⟩ := ra.at hd
      exact .inr (.inl ⟨a, vs, _, w, rfl, rfl, E2.fh.stt ha, hw, k _ _ F2 H2 ρ2 E2 e12 rw' q3⟩)
theorem wd_ixO {j : Nat} {zs : List PyData} (hj : ρ[j]? = some (some (.own zs))) (h : WD B K tb ρ fun y ρ2 => ∃ xs i d, ρ2[j]? = some (some (.own xs)) ∧ y = .int i ∧ atI xs i = some d ∧ QD d ρ2) : WD B K (tOp (rIx K) (tVar j) tb) ρ QD := fun F H σ E QQ k => by
  obtain ⟨a, vs, e, _⟩ := E.own_at hj
  refine ⟨.ref a, e, h F H σ E _ fun u y F2 H2 ρ2 E2 e2 ru ⟨xs, i, d, hx, hy, hd, q2⟩ => ?_⟩
  subst hy
  cases ru
  obtain ⟨a', vs', e', _, k2, k3⟩ := E2.own_at hx
  rw [e] at e'
  cases e'
  obtain ⟨w, hw, rw'⟩ := k3.at hd
  exact .inl ⟨a, vs', i, w, rfl, rfl, .inl (.inl k2), hw, k _ _ F2 H2 ρ2 E2 e2 rw' q2⟩
theorem wd_ixS {j : Nat} {ns : List Int} (hj : ρ[j]? = some (some (.scr ns))) (h : WD B K tb ρ fun y ρ2 => ∃ i n, y = .int i ∧ atI ns i = some n ∧ QD (.int n) ρ2) : WD B K (tOp (rIx K) (tVar j) tb) ρ QD := fun F H σ E QQ k => by
  obtain ⟨v, e, a, hv, hs⟩ := E.sl j _ hj
  subst hv
  refine ⟨.ref a, e, h F H σ E _ fun u y F2 H2 ρ2 E2 e2 ru ⟨i, n, hy, hn, q2⟩ => ?_⟩
  subst hy
  cases ru
  have hw : atI (ns.map V.int) i = some (.int n) := by
    unfold atI at hn ⊢
    rw [List.length_map]
    cases e : ixN ns.length i with
    | none => rw [e] at hn; cases hn
    | some j =>
      rw [e] at hn
      show (ns.map V.int)[j]? = _
      rw [List.getElem?_map, show ns[j]? = some n from hn]
      rfl
  exact .inl ⟨a, _, i, _, rfl, rfl, E2.fh.sl (e2.sl hs), hw, k _ _ F2 H2 ρ2 E2 e2 (.int n) q2⟩
/-! ### slices -/
theorem wo_none (q : QO none ρ) : WO B K tNoPart ρ QO := fun F H σ E QQ k => k none F H ρ E (Ex.refl F) q
theorem wo_some (h : WD B K te ρ fun x ρ1 => ∃ i, x = .int i ∧ QO (some i) ρ1) : WO B K (tPart te) ρ QO := fun F H σ E QQ k =>
  h F H σ E _ fun v x F1 H1 ρ1 E1 e1 rv ⟨i, hx, q⟩ => by
    subst hx
    cases rv
    exact ⟨i, rfl, k (some i) F1 H1 ρ1 E1 e1 q⟩
def cutD {α : Type} (xs : List α) (lo hi : Option Int) : List α := (xs.drop (HT.sIx xs.length 0 lo)).take (HT.sIx xs.length xs.length hi - HT.sIx xs.length 0 lo)
theorem RpA.cut {F : Hp} {vs : List V} {xs : List PyData} (r : RpA K F vs xs) (lo hi : Option Int) : RpA K F (cutV vs lo hi) (cutD xs lo hi) := by
  unfold cutV cutD
  rw [r.length]
  exact (r.drop _).take _
theorem cutV_map {α : Type} (f : α → V) (xs : List α) (lo hi : Option Int) : cutV (xs.map f) lo hi = (cutD xs lo hi).map f := by
  unfold cutV cutD
  rw [List.length_map, List.map_take, List.map_drop]
theorem cutD_map {α β : Type} (f : α → β) (xs : List α) (lo hi : Option Int) : cutD (xs.map f) lo hi = (cutD xs lo hi).map f := by
  unfold cutD
  rw [List.length_map, List.map_take, List.map_drop]
abbrev rSlAny (K : Fr) : V → Option Int → Option Int → Hp → VK → Prop := fun x lo hi H Q => rSlL K x lo hi H Q ∨ rSlA K x lo hi H Q ∨ rSlS x lo hi H Q
theorem sl_any {X : Cx} : SlR X (rSlAny X.K) := sl_list.or (sl_tupA.or sl_str)
end
end SV

set_option maxHeartbeats 1000000
namespace SV
open PySem PySem.Spec L2
open Evl (Ex)

/-! ### slots that may be stored -/
def NP (B : Bs) (i : Nat) : Prop := ∀ a, B.pin ≠ some (i, a)
theorem np_of {B : Bs} {p : Option Nat} {i : Nat} (h : B.pin.map Prod.fst = p) (n : p ≠ some i) : NP B i := fun a e => n (by rw [← h, e]; rfl)
section
variable {B : Bs} {K : Fr} {ρ : En} {ta tb te : TE} {tt : TT} {tr tl : TA} {Q : R → En → Prop} {QD : PyData → En → Prop} {QT : Bool → En → Prop} {QA : List Ar → En → Prop} {QO : Option Int → En → Prop} {Z : Zs}

/-! ### slices -/
def Slc : PyData → Option Int → Option Int → (R → Prop) → Prop
  | .list xs, lo, hi, k => k (.new (cutD xs lo hi))
  | .tuple xs, lo, hi, k => k (.d (.tuple (cutD xs lo hi)))
  | .str z, lo, hi, k => z.length ≤ lim ∧ k (.d (.str (cutS z lo hi)))
  | _, _, _, _ => False
theorem cutD_all {α : Type} {xs : List α} {lo hi : Option Int} (h1 : HT.sIx xs.length 0 lo = 0) (h2 : HT.sIx xs.length xs.length hi = xs.length) : cutD xs lo hi = xs := by
  unfold cutD
  rw [h1, h2, List.drop_zero, Nat.sub_zero, List.take_length]
theorem we_sl {t1 t2 : TO} (h : WD B K te ρ fun x ρ1 => WO B K t1 ρ1 fun lo ρ2 => WO B K t2 ρ2 fun hi ρ3 => Slc x lo hi fun r => Q r ρ3) : WE B K (tSl (rSlAny K) te t1 t2) ρ Q := fun F H σ E QQ k =>
  h F H σ E _ fun v x F1 H1 ρ1 E1 e1 rv q => q F1 H1 σ E1 _ fun lo F2 H2 ρ2 E2 e2 q2 => q2 F2 H2 σ E2 _ fun hi F3 H3 ρ3 E3 e3 q3 => by
    have e13 := e1.trans (e2.trans e3)
    have rv' := Rp.mono (e2.trans e3) rv
    cases x <;> try exact False.elim q3
    · cases rv'
      exact .inr (.inr ⟨_, rfl, lim_le q3.1, k _ (.d (.str _)) F3 H3 ρ3 E3 e13 (Rp.str _) q3.2⟩)
    · cases rv' with
      | @lst a vs xs ha ra =>
      refine .inl ⟨a, vs, rfl, .inl (.inl (E3.fh _ _ ha)), fun p hp => ?_⟩
      obtain ⟨E4, r4⟩ := new_ok E3 hp (ra.cut lo hi)
      exact k _ _ F3 _ ρ3 E4 e13 r4 q3
    · cases rv' with
      | @tup a vs xs ha ra =>
      refine .inr (.inl ⟨a, vs, rfl, E3.fh.stt ha, fun w => ?_, fun w p hp => ?_⟩)
      · refine k _ (.d (.tuple (cutD _ lo hi))) F3 H3 ρ3 E3 e13 ?_ q3
        rw [cutD_all (by rw [← ra.length]; exact w.1) (by rw [← ra.length]; exact w.2)]
        exact Rp.tup ha ra
      · obtain ⟨E4, e4⟩ := E3.alloc (o := .tup (cutV vs lo hi)) hp
        exact k _ (.d (.tuple _)) _ _ ρ3 E4 (e13.trans e4) (Rp.tup (.inl (.inl upd_same)) ((ra.cut lo hi).mono e4)) q3
theorem we_slS {j : Nat} {ns : List Int} {t1 t2 : TO} (hj : ρ[j]? = some (some (.scr ns))) (h : WO B K t1 ρ fun lo ρ2 => WO B K t2 ρ2 fun hi ρ3 => Q (.new ((cutD ns lo hi).map .int)) ρ3) : WE B K (tSl (rSlAny K) (tVar j) t1 t2) ρ Q := fun F H σ E QQ k => by
  obtain ⟨v, e, a, hv, hs⟩ := E.sl j _ hj
  subst hv
  refine ⟨.ref a, e, h F H σ E _ fun lo F2 H2 ρ2 E2 e2 q2 => q2 F2 H2 σ E2 _ fun hi F3 H3 ρ3 E3 e3 q3 => ?_⟩
  refine .inl ⟨a, _, rfl, E3.fh.sl ((e2.trans e3).sl hs), fun p hp => ?_⟩
  obtain ⟨E4, r4⟩ := new_ok E3 hp (RpA.of_ints (K := K) (F := F3) (cutD ns lo hi))
  rw [cutV_map]
  exact k _ _ F3 _ ρ3 E4 (e2.trans e3) r4 q3
theorem we_slO {j : Nat} {zs : List PyData} {t1 t2 : TO} (hj : ρ[j]? = some (some (.own zs))) (h : WO B K t1 ρ fun lo ρ2 => WO B K t2 ρ2 fun hi ρ3 => ∃ xs, ρ3[j]? = some (some (.own xs)) ∧ Q (.new (cutD xs lo hi)) ρ3) : WE B K (tSl (rSlAny K) (tVar j) t1 t2) ρ Q := fun F H σ E QQ k => by
  obtain ⟨a, vs, e, _⟩ := E.own_at hj
  refine ⟨.ref a, e, h F H σ E _ fun lo F2 H2 ρ2 E2 e2 q2 => q2 F2 H2 σ E2 _ fun hi F3 H3 ρ3 E3 e3 ⟨xs, hx, q3⟩ => ?_⟩
  obtain ⟨a', ws, e', _, k2, k3⟩ := E3.own_at hx
  rw [e] at e'
  cases e'
  refine .inl ⟨a, ws, rfl, .inl (.inl k2), fun p hp => ?_⟩
  obtain ⟨E4, r4⟩ := new_ok E3 hp (k3.cut lo hi)
  exact k _ _ F3 _ ρ3 E4 (e2.trans e3) r4 q3

/-! ### len -/
abbrev rLen (K : Fr) : List V → Hp → VK → Prop := fun xs H Q => ∃ x n, xs = [x] ∧ LenV K x H n ∧ Q (.int n) H
def Len : PyData → (Int → Prop) → Prop
  | .list xs, k => k xs.length
  | .tuple xs, k => k xs.length
  | .str z, k => z.length ≤ lim ∧ k z.length
  | _, _ => False
theorem wd_len (h : WD B K te ρ fun x ρ1 => Len x fun n => QD (.int n) ρ1) : WD B K (tCB (rLen K) (tCons te tNil)) ρ QD := fun F H σ E QQ k =>
  h F H σ E _ fun v x F1 H1 ρ1 E1 e1 rv q => by
    cases x <;> try exact False.elim q
    · cases rv
      exact ⟨_, _, rfl, ⟨lim_le q.1, rfl⟩, k _ _ F1 H1 ρ1 E1 e1 (.int _) q.2⟩
    · cases rv with
      | @lst a vs xs ha ra => exact ⟨_, vs.length, rfl, .inl ⟨vs, .inl (.inl (E1.fh _ _ ha)), rfl⟩, k _ _ F1 H1 ρ1 E1 e1 (by rw [ra.length]; exact .int _) q⟩
    · cases rv with
      | @tup a vs xs ha ra => exact ⟨_, vs.length, rfl, .inr ⟨vs, E1.fh.stt ha, rfl⟩, k _ _ F1 H1 ρ1 E1 e1 (by rw [ra.length]; exact .int _) q⟩
theorem wd_lenO {j : Nat} {xs : List PyData} (hj : ρ[j]? = some (some (.own xs))) (q : QD (.int xs.length) ρ) : WD B K (tCB (rLen K) (tCons (tVar j) tNil)) ρ QD := fun F H σ E QQ k => by
  obtain ⟨a, vs, e, _, k2, k3⟩ := E.own_at hj
  exact ⟨.ref a, e, _, vs.length, rfl, .inl ⟨vs, .inl (.inl k2), rfl⟩, k _ _ F H ρ E (Ex.refl F) (by rw [k3.length]; exact .int _) q⟩
theorem wd_lenS {j : Nat} {ns : List Int} (hj : ρ[j]? = some (some (.scr ns))) (q : QD (.int ns.length) ρ) : WD B K (tCB (rLen K) (tCons (tVar j) tNil)) ρ QD := fun F H σ E QQ k => by
  obtain ⟨v, e, a, hv, hs⟩ := E.sl j _ hj
  subst hv
  exact ⟨.ref a, e, _, _, rfl, .inl ⟨_, E.fh.sl hs, rfl⟩, k _ _ F H ρ E (Ex.refl F) (by rw [List.length_map]; exact .int _) q⟩

/-! ### isinstance of plain data against a built-in type -/
inductive Ty where | int | bool | str | tuple | list | dict | non
def Ty.name : Ty → String
  | .int => "int" | .bool => "bool" | .str => "str" | .tuple => "tuple" | .list => "list" | .dict => "dict" | .non => "NoneType"
def tyD : PyData → Ty
  | .int _ => .int | .bool _ => .bool | .str _ => .str | .tuple _ => .tuple | .list _ => .list | .dict _ => .dict | .none => .non
def isTy : Ty → Ty → Bool
  | .int, .int => true | .bool, .bool => true | .bool, .int => true | .str, .str => true | .tuple, .tuple => true | .list, .list => true | .dict, .dict => true | .non, .non => true
  | _, _ => false
theorem kit_ok (a b : Ty) : PySem.W.kitOne K (.type a.name) (.type b.name) = some (isTy a b) := by
  cases a <;> cases b <;> exact kit_ty (by decide +kernel)
theorem tyx_of {F H : Hp} {v : V} {x : PyData} (e : Ex F H) (r : Rp K F v x) : TyX K H v (.type (tyD x).name) := by
  cases r with
  | non => exact .base .non
  | bl b => exact .base (.bl b)
  | int b => exact .base (.int b)
  | str b => exact .base (.str b)
  | lst h _ => exact .base (.lst (e _ _ h))
  | tup h _ =>
    rcases h with (h | ⟨o, h⟩) | ⟨o, its, n, ho, hc, _⟩
    · exact .base (.tup (e _ _ h))
    · exact .fTuple (e _ _ h)
    · exact .kTuple ho hc
  | dct h => exact .base (.dK (e _ _ h))
theorem wd_isi (t : Ty) (h : WD B K te ρ fun x ρ1 => QD (.bool (isTy (tyD x) t)) ρ1) : WD B K (tCB (rIsi K) (tCons te (tCons (tC (.ty t.name)) tNil))) ρ QD := fun F H σ E QQ k =>
  h F H σ E _ fun v x F1 H1 ρ1 E1 e1 rv q => ⟨v, .ty t.name, .type (tyD x).name, .type t.name, isTy (tyD x) t, rfl, .ty _, tyx_of E1.fh rv, kit_ok _ _, k _ _ F1 H1 ρ1 E1 e1 (.bl _) q⟩

theorem wd_isi_int (h : WD B K te ρ fun x ρ1 => QD (.bool (isTy (tyD x) .int)) ρ1) : WD B K (tCB (rIsi K) (tCons te (tCons (tC (.ty "int")) tNil))) ρ QD := wd_isi .int h
theorem wd_isi_bool (h : WD B K te ρ fun x ρ1 => QD (.bool (isTy (tyD x) .bool)) ρ1) : WD B K (tCB (rIsi K) (tCons te (tCons (tC (.ty "bool")) tNil))) ρ QD := wd_isi .bool h
theorem wd_isi_str (h : WD B K te ρ fun x ρ1 => QD (.bool (isTy (tyD x) .str)) ρ1) : WD B K (tCB (rIsi K) (tCons te (tCons (tC (.ty "str")) tNil))) ρ QD := wd_isi .str h
theorem wd_isi_tuple (h : WD B K te ρ fun x ρ1 => QD (.bool (isTy (tyD x) .tuple)) ρ1) : WD B K (tCB (rIsi K) (tCons te (tCons (tC (.ty "tuple")) tNil))) ρ QD := wd_isi .tuple h
theorem wd_isi_list (h : WD B K te ρ fun x ρ1 => QD (.bool (isTy (tyD x) .list)) ρ1) : WD B K (tCB (rIsi K) (tCons te (tCons (tC (.ty "list")) tNil))) ρ QD := wd_isi .list h
theorem wd_isi_dict (h : WD B K te ρ fun x ρ1 => QD (.bool (isTy (tyD x) .dict)) ρ1) : WD B K (tCB (rIsi K) (tCons te (tCons (tC (.ty "dict")) tNil))) ρ QD := wd_isi .dict h
/-! ### a call of a built-in on data, by values -/
theorem wd_max2 (h : WD B K ta ρ fun x ρ1 => ∃ i, x = .int i ∧ WD B K tb ρ1 fun y ρ2 => ∃ j, y = .int j ∧ QD (.int (if j > i then j else i)) ρ2) : WD B K (tCB (fun xs H Q => ∃ i j, xs = [.int i, .int j] ∧ Q (.int (if j > i then j else i)) H) (tCons ta (tCons tb tNil))) ρ QD := fun F H σ E QQ k =>
  h F H σ E _ fun v x F1 H1 ρ1 E1 e1 rv ⟨i, hx, q⟩ => q F1 H1 σ E1 _ fun u y F2 H2 ρ2 E2 e2 ru ⟨j, hy, q2⟩ => by
    subst hx hy
    cases rv; cases ru
    exact ⟨i, j, rfl, k _ _ F2 H2 ρ2 E2 (e1.trans e2) (.int _) q2⟩
theorem wd_min2 (h : WD B K ta ρ fun x ρ1 => ∃ i, x = .int i ∧ WD B K tb ρ1 fun y ρ2 => ∃ j, y = .int j ∧ QD (.int (if j < i then j else i)) ρ2) : WD B K (tCB (fun xs H Q => ∃ i j, xs = [.int i, .int j] ∧ Q (.int (if j < i then j else i)) H) (tCons ta (tCons tb tNil))) ρ QD := fun F H σ E QQ k =>
  h F H σ E _ fun v x F1 H1 ρ1 E1 e1 rv ⟨i, hx, q⟩ => q F1 H1 σ E1 _ fun u y F2 H2 ρ2 E2 e2 ru ⟨j, hy, q2⟩ => by
    subst hx hy
    cases rv; cases ru
    exact ⟨i, j, rfl, k _ _ F2 H2 ρ2 E2 (e1.trans e2) (.int _) q2⟩
theorem wd_maxL (h : WD B K te ρ fun x ρ1 => ∃ ns : List Int, x = .list (ns.map .int) ∧ 0 < ns.length ∧ ∀ m, m ∈ ns → (∀ y, y ∈ ns → y ≤ m) → QD (.int m) ρ1) : WD B K (tCB (rMax K) (tCons te tNil)) ρ QD := fun F H σ E QQ k =>
  h F H σ E _ fun v x F1 H1 ρ1 E1 e1 rv ⟨ns, hx, hn, q⟩ => by
    subst hx
    cases rv with
    | @lst a vs xs ha ra =>
    have e := ra.ints
    subst e
    exact ⟨a, ns, rfl, .inl (.inl (E1.fh _ _ ha)), hn, fun m hm hy => k _ _ F1 H1 ρ1 E1 e1 (.int m) (q m hm hy)⟩
theorem wd_minL (h : WD B K te ρ fun x ρ1 => ∃ ns : List Int, x = .list (ns.map .int) ∧ 0 < ns.length ∧ ∀ m, m ∈ ns → (∀ y, y ∈ ns → m ≤ y) → QD (.int m) ρ1) : WD B K (tCB (rMin K) (tCons te tNil)) ρ QD := fun F H σ E QQ k =>
  h F H σ E _ fun v x F1 H1 ρ1 E1 e1 rv ⟨ns, hx, hn, q⟩ => by
    subst hx
    cases rv with
    | @lst a vs xs ha ra =>
    have e := ra.ints
    subst e
    exact ⟨a, ns, rfl, .inl (.inl (E1.fh _ _ ha)), hn, fun m hm hy => k _ _ F1 H1 ρ1 E1 e1 (.int m) (q m hm hy)⟩
theorem wd_sum (h : WD B K te ρ fun x ρ1 => ∃ ns : List Int, x = .list (ns.map .int) ∧ QD (.int ns.sum) ρ1) : WD B K (tCB (rSum K) (tCons te tNil)) ρ QD := fun F H σ E QQ k =>
  h F H σ E _ fun v x F1 H1 ρ1 E1 e1 rv ⟨ns, hx, q⟩ => by
    subst hx
    cases rv with
    | @lst a vs xs ha ra =>
    have e := ra.ints
    subst e
    exact ⟨a, ns, rfl, .inl (.inl (E1.fh _ _ ha)), k _ _ F1 H1 ρ1 E1 e1 (.int _) q⟩
/-- list(xs), list(t) -/
abbrev rListOf (K : Fr) : List V → Hp → VK → Prop := fun xs H Q => ∃ p ys, xs = [.ref p] ∧ (SqL K H p ys ∨ SqT K H p ys) ∧ ∀ l, H l = none → Q (.ref l) (upd H l (.lst ys))
def Lof : PyData → (List PyData → Prop) → Prop
  | .list xs, k => k xs
  | .tuple xs, k => k xs
  | _, _ => False
theorem lof_list {xs : List PyData} {k : List PyData → Prop} (h : k xs) : Lof (.list xs) k := h
theorem lof_tup {xs : List PyData} {k : List PyData → Prop} (h : k xs) : Lof (.tuple xs) k := h
theorem we_list (h : WD B K te ρ fun x ρ1 => Lof x fun xs => Q (.new xs) ρ1) : WE B K (tCB (rListOf K) (tCons te tNil)) ρ Q := fun F H σ E QQ k =>
  h F H σ E _ fun v x F1 H1 ρ1 E1 e1 rv q => by
    cases x <;> try exact False.elim q
    · cases rv with
      | @lst a vs xs ha ra =>
      refine ⟨a, vs, rfl, .inl (.inl (.inl (E1.fh _ _ ha))), fun p hp => ?_⟩
      obtain ⟨E4, r4⟩ := new_ok E1 hp ra
      exact k _ _ F1 _ ρ1 E4 e1 r4 q
    · cases rv with
      | @tup a vs xs ha ra =>
      refine ⟨a, vs, rfl, .inr (E1.fh.stt ha), fun p hp => ?_⟩
      obtain ⟨E4, r4⟩ := new_ok E1 hp ra
      exact k _ _ F1 _ ρ1 E4 e1 r4 q
/-- tuple(xs) of a list -/
abbrev rTupOf (K : Fr) : List V → Hp → VK → Prop := fun xs H Q => ∃ p ys, xs = [.ref p] ∧ ((SqL K H p ys ∧ ∀ l, H l = none → Q (.ref l) (upd H l (.tup ys))) ∨ (SqT K H p ys ∧ Q (.ref p) H))
theorem wd_tupOf (h : WD B K te ρ fun x ρ1 => ∃ xs, x = .list xs ∧ QD (.tuple xs) ρ1) : WD B K (tCB (rTupOf K) (tCons te tNil)) ρ QD := fun F H σ E QQ k =>
  h F H σ E _ fun v x F1 H1 ρ1 E1 e1 rv ⟨xs, hx, q⟩ => by
    subst hx
    cases rv with
    | @lst a vs xs ha ra =>
    refine ⟨a, vs, rfl, .inl ⟨.inl (.inl (E1.fh _ _ ha)), fun p hp => ?_⟩⟩
    obtain ⟨E4, e4⟩ := E1.alloc (o := .tup vs) hp
    exact k _ _ _ _ ρ1 E4 (e1.trans e4) (.tup (.inl (.inl upd_same)) (ra.mono e4)) q
theorem wd_tupOfO {j : Nat} {xs : List PyData} (hj : ρ[j]? = some (some (.own xs))) (q : QD (.tuple xs) ρ) : WD B K (tCB (rTupOf K) (tCons (tVar j) tNil)) ρ QD := fun F H σ E QQ k => by
  obtain ⟨a, vs, e, _, k2, k3⟩ := E.own_at hj
  refine ⟨.ref a, e, a, vs, rfl, .inl ⟨.inl (.inl k2), fun p hp => ?_⟩⟩
  obtain ⟨E4, e4⟩ := E.alloc (o := .tup vs) hp
  exact k _ _ _ _ ρ E4 e4 (.tup (.inl (.inl upd_same)) (k3.mono e4)) q
theorem we_listO {j : Nat} {xs : List PyData} (hj : ρ[j]? = some (some (.own xs))) (q : Q (.new xs) ρ) : WE B K (tCB (rListOf K) (tCons (tVar j) tNil)) ρ Q := fun F H σ E QQ k => by
  obtain ⟨a, vs, e, _, k2, k3⟩ := E.own_at hj
  refine ⟨.ref a, e, a, vs, rfl, .inl (.inl (.inl k2)), fun p hp => ?_⟩
  obtain ⟨E4, r4⟩ := new_ok E hp k3
  exact k _ _ F _ ρ E4 (Ex.refl F) r4 q
/-- int(b), int(i) -/
abbrev rInt1 : List V → Hp → VK → Prop := fun xs H Q => (∃ i, xs = [.int i] ∧ Q (.int i) H) ∨ ∃ k, xs = [.bl k] ∧ Q (.int (if k then 1 else 0)) H
theorem wd_int1 (h : WD B K te ρ fun x ρ1 => match x with | .int i => QD (.int i) ρ1 | .bool b => QD (.int (if b then 1 else 0)) ρ1 | _ => False) : WD B K (tCB rInt1 (tCons te tNil)) ρ QD := fun F H σ E QQ k =>
  h F H σ E _ fun v x F1 H1 ρ1 E1 e1 rv q => by
    cases rv with
    | int i => exact .inl ⟨i, rfl, k _ _ F1 H1 ρ1 E1 e1 (.int _) q⟩
    | bl b => exact .inr ⟨b, rfl, k _ _ F1 H1 ρ1 E1 e1 (.int _) q⟩
    | non => exact False.elim q
    | str _ => exact False.elim q
    | lst _ _ => exact False.elim q
    | tup _ _ => exact False.elim q
    | dct _ => exact False.elim q

/-! ### methods of lists that are owned -/
theorem we_append {j : Nat} {zs : List PyData} (hj : ρ[j]? = some (some (.own zs))) (h : WD B K te ρ fun x ρ1 => ∃ xs, ρ1[j]? = some (some (.own xs)) ∧ xs.length < lim ∧ Q (.d .none) (ρ1.set j (some (.own (xs ++ [x]))))) : WE B K (tBM K "list" rAppend (tVar j) (tCons te tNil)) ρ Q := fun F H σ E QQ k => by
  obtain ⟨a, vs, e, _, k2, _⟩ := E.own_at hj
  refine ⟨.ref a, e, .inl ⟨rfl, vs, .inl (.inl k2)⟩, h F H σ E _ fun v x F1 H1 ρ1 E1 e1 rv ⟨xs, hx, hz, q⟩ => ?_⟩
  obtain ⟨a', ws, e', m1, m2, m3⟩ := E1.own_at hx
  rw [e] at e'
  cases e'
  have E2 := E1.write hx e (m3.append (.cons rv .nil))
  exact ⟨a, ws, v, rfl, rfl, m2, by rw [m3.length]; exact lim_lt hz, k _ (.d .none) F1 _ _ E2 e1 Rp.non q⟩
theorem we_extend {j : Nat} {zs : List PyData} (hj : ρ[j]? = some (some (.own zs))) (h : WD B K te ρ fun y ρ1 => ∃ xs ys, ρ1[j]? = some (some (.own xs)) ∧ y = .list ys ∧ xs.length + ys.length ≤ lim ∧ Q (.d .none) (ρ1.set j (some (.own (xs ++ ys))))) : WE B K (tBM K "list" rExtend (tVar j) (tCons te tNil)) ρ Q := fun F H σ E QQ k => by
  obtain ⟨a, vs, e, _, k2, _⟩ := E.own_at hj
  refine ⟨.ref a, e, .inl ⟨rfl, vs, .inl (.inl k2)⟩, h F H σ E _ fun v y F1 H1 ρ1 E1 e1 rv ⟨xs, ys, hx, hy, hz, q⟩ => ?_⟩
  subst hy
  obtain ⟨a', ws, e', m1, m2, m3⟩ := E1.own_at hx
  rw [e] at e'
  cases e'
  cases rv with
  | @lst b us ys hb rb =>
  have E2 := E1.write hx e (m3.append rb)
  exact ⟨a, b, ws, us, rfl, rfl, m2, E1.fh _ _ hb, by rw [m3.length, rb.length]; exact lim_le hz, k _ (.d .none) F1 _ _ E2 e1 Rp.non q⟩
theorem we_pop {j : Nat} {xs : List PyData} {y : PyData} (hj : ρ[j]? = some (some (.own xs))) (hy : xs[xs.length - 1]? = some y) (q : Q (.d y) (ρ.set j (some (.own xs.dropLast)))) : WE B K (tBM0 K "list" rPop (tVar j)) ρ Q := fun F H σ E QQ k => by
  obtain ⟨a, vs, e, k1, k2, k3⟩ := E.own_at hj
  obtain ⟨v, hv, rv⟩ := k3.get' hy
  rw [← k3.length] at hv
  exact ⟨.ref a, e, .inl ⟨rfl, vs, .inl (.inl k2)⟩, a, vs, v, rfl, rfl, k2, hv, k v (.d y) F _ _ (E.write hj e k3.dropLast) (Ex.refl F) rv q⟩
theorem we_popAt {j : Nat} {zs : List PyData} (hj : ρ[j]? = some (some (.own zs))) (h : WD B K te ρ fun x ρ1 => ∃ xs i n y, ρ1[j]? = some (some (.own xs)) ∧ x = .int i ∧ -(2 ^ 63) ≤ i ∧ i < 2 ^ 63 ∧ ixN xs.length i = some n ∧ xs[n]? = some y ∧ Q (.d y) (ρ1.set j (some (.own (xs.eraseIdx n))))) : WE B K (tBM K "list" rPopAt (tVar j) (tCons te tNil)) ρ Q := fun F H σ E QQ k => by
  obtain ⟨a, vs, e, _, k2, _⟩ := E.own_at hj
  refine ⟨.ref a, e, .inl ⟨rfl, vs, .inl (.inl k2)⟩, h F H σ E _ fun v x F1 H1 ρ1 E1 e1 rv ⟨xs, i, n, y, hx, hi, i1, i2, hn, hy, q⟩ => ?_⟩
  subst hi
  cases rv
  obtain ⟨a', ws, e', m1, m2, m3⟩ := E1.own_at hx
  rw [e] at e'
  cases e'
  obtain ⟨w, hw, rw'⟩ := m3.get' hy
  exact ⟨a, ws, i, n, w, rfl, rfl, m2, i1, i2, (ixN_seq (by rw [m3.length]; exact hn)).1, hw, k _ (.d y) F1 _ _ (E1.write hx e (m3.erase n)) e1 rw' q⟩

/-! ### statements -/
theorem ws_seq {t1 t2 : TS} (h : WS B K t1 ρ (Z.sq fun ρ' => WS B K t2 ρ' Z)) : WS B K (tSeq t1 t2) ρ Z := fun F H σ E D ok =>
  h F H σ E _ ⟨fun F' H' σ' ρ' E' e' q => q F' H' σ' E' D (ok.up e'), ok.rt, ok.bk, ok.ct⟩
theorem ws_next (q : Z.nx ρ) : WS B K tNext ρ Z := fun F H σ E D ok => ok.nx F H σ ρ E (Ex.refl F) q
theorem ws_brk (q : Z.bk ρ) : WS B K tBreak ρ Z := fun F H σ E D ok => ok.bk F H σ ρ E (Ex.refl F) q
theorem ws_cont (q : Z.ct ρ) : WS B K tCont ρ Z := fun F H σ E D ok => ok.ct F H σ ρ E (Ex.refl F) q
theorem ws_ret (h : WE B K te ρ fun r ρ' => Z.rt r ρ') : WS B K (tRet te) ρ Z := fun F H σ E D ok =>
  h F H σ E _ fun v r F' H' ρ' E' ef rv q => ok.rt F' H' σ ρ' v r E' ef rv q
theorem ws_retN (q : Z.rt (.d .none) ρ) : WS B K tRetN ρ Z := fun F H σ E D ok => ok.rt F H σ ρ .non (.d .none) E (Ex.refl F) Rp.non q
theorem ws_never (h : False) (t : TS) : WS B K t ρ Z := h.elim
def R.toL : R → Option L
  | .d x => some (.d x)
  | .new xs => some (.d (.list xs))
  | .scr ns => some (.scr ns)
  | .raw v => some (.raw v)
  | .deep t => if t.isD = true then some (.d t.data) else none
  | .newD _ _ => none
theorem slot_of {F H : Hp} {σ : St} (E : EnvOk B K F H σ ρ) {v : V} {r : R} {l : L} (rv : ROk B K F H σ ρ v r) (hl : r.toL = some l) : ∃ F', EnvOk B K F' H σ ρ ∧ Ex F F' ∧ SlotOk K F' H v l ∧ l.pl = true := by
  cases r with
  | d x => cases hl; exact ⟨F, E, Ex.refl F, rv, rfl⟩
  | new xs =>
    cases hl
    obtain ⟨F', E', e', r'⟩ := E.asD (r := .new xs) rv rfl
    exact ⟨F', E', e', r', rfl⟩
  | scr ns => cases hl; exact ⟨F, E, Ex.refl F, rv, rfl⟩
  | raw w => cases hl; exact ⟨F, E, Ex.refl F, rv, rfl⟩
  | newD ks xs => cases hl
  | deep t =>
    unfold R.toL at hl
    by_cases c : t.isD = true
    · simp only [c, if_true] at hl
      cases hl
      obtain ⟨F', E', e', r'⟩ := E.asD (r := .deep t) (x := t.data) rv (by unfold R.toD; simp only [c, if_true])
      exact ⟨F', E', e', r', rfl⟩
    · simp only [c] at hl
      cases hl
/-- name = e: data, the script, any value -/
theorem ws_asg {i : Nat} (hp : NP B i) (h : WE B K te ρ fun r ρ' => ∃ l, r.toL = some l ∧ Z.nx (ρ'.set i (some l))) : WS B K (tAsg te (gName i)) ρ Z := fun F H σ E D ok =>
  h F H σ E _ fun v r F' H' ρ' E' ef rv ⟨l, hl, q⟩ => by
    obtain ⟨F2, E2, e2, s2, n2⟩ := slot_of E' rv hl
    exact ok.nx F2 H' _ _ (E2.setD s2 n2 hp) (ef.trans e2) q
/-- name = e, a list that the frame will change -/
def tAsgO (te : TE) (i : Nat) : TS := tAsg te (gName i)
def R.toO : R → Option L
  | .new xs => some (.own xs)
  | .deep t => some (.deep t)
  | .newD ks xs => some (.ownD ks xs)
  | _ => none
theorem ws_asgO {i : Nat} (hp : NP B i) (h : WE B K te ρ fun r ρ' => ∃ l, r.toO = some l ∧ Z.nx (ρ'.set i (some l))) : WS B K (tAsgO te i) ρ Z := fun F H σ E D ok =>
  h F H σ E _ fun v r F' H' ρ' E' ef rv ⟨l, hr, q⟩ => by
    cases r with
    | new xs => cases hr; exact ok.nx F' H' _ _ (E'.setO rv hp) ef q
    | deep t => cases hr; exact ok.nx F' H' _ _ (E'.setT rv hp) ef q
    | newD ks xs => cases hr; exact ok.nx F' H' _ _ (E'.setND rv hp) ef q
    | _ => cases hr
theorem ws_if {tc : TT} {t u : TS} (h : WT B K tc ρ fun b ρ1 => (b = true → WS B K t ρ1 Z) ∧ (b = false → WS B K u ρ1 Z)) : WS B K (tIfS tc t u) ρ Z := fun F H σ E D ok =>
  h F H σ E _ fun b F1 H1 ρ1 E1 e1 q => by
    cases b with
    | true => exact q.1 rfl F1 H1 σ E1 D (ok.up e1)
    | false => exact q.2 rfl F1 H1 σ E1 D (ok.up e1)
theorem ws_drop (h : WE B K te ρ fun _ ρ' => Z.nx ρ') : WS B K (tDrop te) ρ Z := fun F H σ E D ok =>
  h F H σ E _ fun v r F' H' ρ' E' ef rv q => ok.nx F' H' σ ρ' E' ef q
theorem ws_mono {t : TS} {Z' : Zs} (h : WS B K t ρ Z') (n : ∀ ρ, Z'.nx ρ → Z.nx ρ) (r : ∀ r ρ, Z'.rt r ρ → Z.rt r ρ) (b : ∀ ρ, Z'.bk ρ → Z.bk ρ) (c : ∀ ρ, Z'.ct ρ → Z.ct ρ) : WS B K t ρ Z := fun F H σ E D ok =>
  h F H σ E D ⟨fun F H σ ρ E e q => ok.nx F H σ ρ E e (n _ q), fun F H σ ρ v x E e rv q => ok.rt F H σ ρ v x E e rv (r _ _ q), fun F H σ ρ E e q => ok.bk F H σ ρ E e (b _ q), fun F H σ ρ E e q => ok.ct F H σ ρ E e (c _ q)⟩
/-- the ways through t meet at P -/
theorem ws_cut {t : TS} (P : En → Prop) (h : WS B K t ρ (Z.sq P)) (i : ∀ ρ', P ρ' → Z.nx ρ') : WS B K t ρ Z := ws_mono h i (fun _ _ q => q) (fun _ q => q) fun _ q => q
/-- name += e -/
theorem ws_aug {i : Nat} {g : Int → Int → Int} (hp : NP B i) {x : Int} (hi : ρ[i]? = some (some (.d (.int x)))) (h : WD B K te ρ fun y ρ1 => ∃ j, y = .int j ∧ Z.nx (ρ1.set i (some (.d (.int (g x j)))))) : WS B K (tAug i te (ipI g)) ρ Z := fun F H σ E D ok => by
  obtain ⟨v, e, s⟩ := E.sl i _ hi
  cases (show Rp K F v (.int x) from s)
  exact ⟨_, e, h F H σ E _ fun u y F1 H1 ρ1 E1 e1 ru ⟨j, hy, q⟩ => by
    subst hy
    cases ru
    exact ⟨x, j, rfl, rfl, ok.nx F1 H1 _ _ (E1.setD (l := .d (.int (g x j))) (Rp.int _) rfl hp) e1 q⟩⟩
/-- o[i] = e of an own list -/
theorem ws_setItem {ti : TE} {j : Nat} (h : WD B K te ρ fun x ρ1 => (∃ zs, ρ1[j]? = some (some (.own zs))) ∧ WD B K ti ρ1 fun y ρ2 => ∃ xs i n, ρ2[j]? = some (some (.own xs)) ∧ y = .int i ∧ ixN xs.length i = some n ∧ Z.nx (ρ2.set j (some (.own (xs.set n x))))) :
    WS B K (tAsg te (gSub (tVar j) ti rSetL)) ρ Z := fun F H σ E D ok =>
  h F H σ E _ fun v x F1 H1 ρ1 E1 e1 rv ⟨⟨zs, hz⟩, q⟩ => by
    obtain ⟨a, vs, e, _⟩ := E1.own_at hz
    refine ⟨.ref a, e, q F1 H1 σ E1 _ fun u y F2 H2 ρ2 E2 e2 ru ⟨xs, i, n, hx, hy, hn, q2⟩ => ?_⟩
    subst hy
    cases ru
    obtain ⟨a', ws, e', m1, m2, m3⟩ := E2.own_at hx
    rw [e] at e'
    cases e'
    exact ⟨a, ws, i, n, rfl, rfl, m2, by rw [m3.length]; exact hn, ok.nx F2 _ _ _ (E2.write hx e (m3.set n (Rp.mono e2 rv))) (e1.trans e2) q2⟩

/-! ### targets -/
def WG (B : Bs) (K : Fr) (g : TG) (x : PyData) (ρ : En) (Q : En → Prop) : Prop := ∀ F H σ v, EnvOk B K F H σ ρ → Rp K F v x → ∀ QQ : L2.St → Hp → Prop, (∀ F' H' σ' ρ', EnvOk B K F' H' σ' ρ' → Ex F F' → Q ρ' → QQ σ' H') → g v σ H QQ
def WGs (B : Bs) (K : Fr) (g : TGs) (xs : List PyData) (ρ : En) (Q : En → Prop) : Prop := ∀ F H σ vs, EnvOk B K F H σ ρ → RpA K F vs xs → ∀ QQ : L2.St → Hp → Prop, (∀ F' H' σ' ρ', EnvOk B K F' H' σ' ρ' → Ex F F' → Q ρ' → QQ σ' H') → g vs σ H QQ
theorem wg_name {i : Nat} {x : PyData} {q : En → Prop} (hp : NP B i) (h : q (ρ.set i (some (.d x)))) : WG B K (gName i) x ρ q := fun F H σ v E rv QQ k =>
  k F H _ _ (E.setD (l := .d x) rv rfl hp) (Ex.refl F) h
theorem wgs_nil {q : En → Prop} (h : q ρ) : WGs B K gNil [] ρ q := fun F H σ vs E rv QQ k => by
  cases rv
  exact ⟨rfl, k F H σ ρ E (Ex.refl F) h⟩
theorem wgs_cons {g : TG} {gs : TGs} {x : PyData} {xs : List PyData} {q : En → Prop} (h : WG B K g x ρ fun ρ1 => WGs B K gs xs ρ1 q) : WGs B K (gCons g gs) (x :: xs) ρ q := fun F H σ vs E rv QQ k => by
  cases rv with
  | cons r1 r2 => exact ⟨_, _, rfl, h F H σ _ E r1 _ fun F' H' σ' ρ' E' e' q' => q' F' H' σ' _ E' (r2.mono e') QQ fun F2 H2 σ2 ρ2 E2 e2 q2 => k F2 H2 σ2 ρ2 E2 (e'.trans e2) q2⟩
theorem wg_tup {n : Nat} {gs : TGs} {xs : List PyData} {q : En → Prop} (hn : xs.length = n) (h : WGs B K gs xs ρ q) : WG B K (gTup K n gs) (.tuple xs) ρ q := fun F H σ v E rv QQ k => by
  cases rv with
  | @tup a vs xs ha ra => exact ⟨a, vs, rfl, E.fh.stt ha, by rw [ra.length]; exact hn, h F H σ vs E ra QQ k⟩
theorem ws_asgG {g : TG} (h : WD B K te ρ fun x ρ' => WG B K g x ρ' Z.nx) : WS B K (tAsg te g) ρ Z := fun F H σ E D ok =>
  h F H σ E _ fun v x F' H' ρ' E' ef rv q => q F' H' σ v E' rv _ fun F2 H2 σ2 ρ2 E2 e2 q2 => ok.nx F2 H2 σ2 ρ2 E2 (ef.trans e2) q2
/-- a, b = x, y of plain local names -/
theorem ws_par {i j : Nat} (hi : NP B i) (hj : NP B j) (h : WDs B K tl ρ fun xs ρ' => ∃ x y, xs = [x, y] ∧ Z.nx ((ρ'.set i (some (.d x))).set j (some (.d y)))) : WS B K (tPar i j tl) ρ Z := fun F H σ E D ok =>
  h F H σ E _ fun vs xs F' H' ρ' E' ef rv ⟨x, y, hx, q⟩ => by
    subst hx
    cases rv with
    | cons r1 r2 =>
      cases r2 with
      | cons r2 r3 =>
        cases r3
        exact ⟨_, _, rfl, ok.nx F' H' _ _ ((E'.setD (l := .d x) r1 rfl hi).setD (l := .d y) r2 rfl hj) ef q⟩

/-! ### loops -/
theorem take_snoc {α : Type} {as : List α} {i : Nat} {a : α} (h : as[i]? = some a) : as.take (i + 1) = as.take i ++ [a] := by
  rw [List.take_add_one, h]
  rfl
theorem split_at {α : Type} {as : List α} {i : Nat} {a : α} (h : as[i]? = some a) : as = as.take i ++ a :: as.drop (i + 1) := by
  obtain ⟨hi, e⟩ := List.getElem?_eq_some_iff.mp h
  rw [← e, ← List.drop_eq_getElem_cons hi, List.take_append_drop]
/-- what a loop over the items as wants -/
def Loop {α : Type} (B : Bs) (K : Fr) (g : TG) (tb : TS) (f : α → PyData) (as : List α) (ρ : En) (Z : Zs) : Prop :=
  ∃ I : List α → En → Prop, I [] ρ ∧ (∀ pre a post ρ2, as = pre ++ a :: post → I pre ρ2 → WG B K g (f a) ρ2 fun ρ3 => WS B K tb ρ3 (Z.lp (I (pre ++ [a])))) ∧ ∀ ρ2, I as ρ2 → Z.nx ρ2
theorem ws_forL {α : Type} {g : TG} {tb : TS} (f : α → PyData) (h : WD B K te ρ fun x ρ1 => ∃ as : List α, x = .list (as.map f) ∧ Loop B K g tb f as ρ1 Z) : WS B K (tFor (iList K te) g tb) ρ Z := fun F H σ E D ok =>
  h F H σ E _ fun v x F1 H1 ρ1 E1 e1 rv ⟨as, hx, I, i0, is, id⟩ => by
    subst hx
    cases rv with
    | @lst a vs xs ha ra =>
    have hl : vs.length = as.length := by rw [ra.length, List.length_map]
    refine ⟨a, rfl, ⟨vs, .inl (.inl (E1.fh _ _ ha))⟩, for_list (xs := vs) (fun i σ H => ∃ F ρ, EnvOk B K F H σ ρ ∧ Ex F1 F ∧ I (as.take i) ρ) ⟨F1, ρ1, E1, Ex.refl F1, i0⟩ (fun i σ H _ ⟨F2, ρ2, E2, e2, _⟩ => .inl (.inl (E2.fh _ _ (e2 _ _ ha)))) (fun i w σ2 H2 hw ⟨F2, ρ2, E2, e2, q⟩ => ?_) fun σ2 H2 ⟨F2, ρ2, E2, e2, q⟩ => ok.nx F2 H2 σ2 ρ2 E2 (e1.trans e2) (id ρ2 (by rw [hl, List.take_length] at q; exact q))⟩
    obtain ⟨d, hd, rd⟩ := ra.get hw
    rw [List.getElem?_map] at hd
    cases ea : as[i]? with
    | none => rw [ea] at hd; cases hd
    | some b =>
    rw [ea] at hd
    cases hd
    exact is (as.take i) b (as.drop (i + 1)) ρ2 (split_at ea) q F2 H2 σ2 w E2 (Rp.mono e2 rd) _ fun F3 H3 σ3 ρ3 E3 e3 q3 => q3 F3 H3 σ3 E3 _
      ⟨fun F4 H4 σ4 ρ4 E4 e4 q4 => ⟨F4, ρ4, E4, e2.trans (e3.trans e4), by rw [take_snoc ea]; exact q4⟩, fun F4 H4 σ4 ρ4 v4 r4 E4 e4 rv4 q4 => ok.rt F4 H4 σ4 ρ4 v4 r4 E4 (e1.trans (e2.trans (e3.trans e4))) rv4 q4,
       fun F4 H4 σ4 ρ4 E4 e4 q4 => ok.nx F4 H4 σ4 ρ4 E4 (e1.trans (e2.trans (e3.trans e4))) q4, fun F4 H4 σ4 ρ4 E4 e4 q4 => ⟨F4, ρ4, E4, e2.trans (e3.trans e4), by rw [take_snoc ea]; exact q4⟩⟩
end
end SV

set_option maxHeartbeats 1000000
namespace SV
open PySem PySem.Spec L2
open Evl (Ex)
section
variable {B : Bs} {K : Fr} {ρ : En} {ta tb te : TE} {tt : TT} {tr tl : TA} {Q : R → En → Prop} {QD : PyData → En → Prop} {QT : Bool → En → Prop} {QA : List Ar → En → Prop} {Z : Zs}

/-! ### loops of any kind -/
theorem loop_gen {α : Type} {J : It} {g : TG} {tS : TS} {f : α → PyData} {as : List α} {F0 F1 H1 : Hp} {σ : L2.St} {ρ1 : En} {D : Ends} (C : En → Prop) (E1 : EnvOk B K F1 H1 σ ρ1) (e1 : Ex F0 F1) (ok : ZOk B K F0 Z D)
    (go : ∀ (i : Nat) (a : α) F H σ ρ, as[i]? = some a → EnvOk B K F H σ ρ → Ex F1 F → C ρ → J.go i H)
    (stop : ∀ (i : Nat) F H σ ρ, as.length ≤ i → EnvOk B K F H σ ρ → Ex F1 F → C ρ → J.stop i H)
    (yld : ∀ (i : Nat) (a : α) F H σ ρ x H', as[i]? = some a → EnvOk B K F H σ ρ → Ex F1 F → C ρ → J.yld i H x H' → ∃ F', EnvOk B K F' H' σ ρ ∧ Ex F F' ∧ Rp K F' x (f a))
    (I : List α → En → Prop) (ic : ∀ pre ρ, I pre ρ → C ρ) (i0 : I [] ρ1) (is : ∀ pre a post ρ2, as = pre ++ a :: post → I pre ρ2 → WG B K g (f a) ρ2 fun ρ3 => WS B K tS ρ3 (Z.lp (I (pre ++ [a])))) (id : ∀ ρ2, I as ρ2 → Z.nx ρ2) :
    ∃ W : Nat → Nat → L2.St → Hp → Prop, (∃ m, W 0 m σ H1) ∧ ∀ i m σ H, W i m σ H →
      (J.stop i H ∧ D.nx σ H) ∨ (J.go i H ∧ ∃ N : L2.St → Hp → Prop, (∀ σ' H', N σ' H' → ∃ m', m' < m ∧ W (i + 1) m' σ' H') ∧ ∀ x H', J.yld i H x H' → g x σ H' fun σ2 H2 => tS { D with nx := N, ct := N, bk := D.nx } σ2 H2) := by
  refine ⟨fun i m σ H => m = as.length - i ∧ i ≤ as.length ∧ ∃ F ρ, EnvOk B K F H σ ρ ∧ Ex F1 F ∧ I (as.take i) ρ, ⟨as.length, (Nat.sub_zero _).symm, Nat.zero_le _, F1, ρ1, E1, Ex.refl F1, i0⟩, ?_⟩
  rintro i m σ2 H2 ⟨rfl, hi, F2, ρ2, E2, e2, q⟩
  by_cases hlt : i < as.length
  · have ea : as[i]? = some as[i] := List.getElem?_eq_getElem hlt
    refine .inr ⟨go i _ F2 H2 σ2 ρ2 ea E2 e2 (ic _ _ q), fun σ' H' => ∃ F ρ, EnvOk B K F H' σ' ρ ∧ Ex F1 F ∧ I (as.take (i + 1)) ρ, fun σ' H' p' => ⟨as.length - (i + 1), by omega, rfl, hlt, p'⟩, fun x H' y => ?_⟩
    obtain ⟨F', E', e', rx⟩ := yld i _ F2 H2 σ2 ρ2 x H' ea E2 e2 (ic _ _ q) y
    exact is (as.take i) as[i] (as.drop (i + 1)) ρ2 (split_at ea) q F' H' σ2 x E' rx _ fun F3 H3 σ3 ρ3 E3 e3 q3 => q3 F3 H3 σ3 E3 _
      ⟨fun F4 H4 σ4 ρ4 E4 e4 q4 => ⟨F4, ρ4, E4, e2.trans (e'.trans (e3.trans e4)), by rw [take_snoc ea]; exact q4⟩, fun F4 H4 σ4 ρ4 v4 r4 E4 e4 rv4 q4 => ok.rt F4 H4 σ4 ρ4 v4 r4 E4 (e1.trans (e2.trans (e'.trans (e3.trans e4)))) rv4 q4,
       fun F4 H4 σ4 ρ4 E4 e4 q4 => ok.nx F4 H4 σ4 ρ4 E4 (e1.trans (e2.trans (e'.trans (e3.trans e4)))) q4, fun F4 H4 σ4 ρ4 E4 e4 q4 => ⟨F4, ρ4, E4, e2.trans (e'.trans (e3.trans e4)), by rw [take_snoc ea]; exact q4⟩⟩
  · have e : i = as.length := by omega
    subst e
    exact .inl ⟨stop _ F2 H2 σ2 ρ2 (Nat.le_refl _) E2 e2 (ic _ _ q), ok.nx F2 H2 σ2 ρ2 E2 (e1.trans e2) (id ρ2 (by rw [List.take_length] at q; exact q))⟩
theorem at_map {α : Type} {K : Fr} {F : Hp} {f : α → PyData} {as : List α} {vs : List V} {i : Nat} {a : α} {v : V} (ra : RpA K F vs (as.map f)) (ea : as[i]? = some a) (hv : vs[i]? = some v) : Rp K F v (f a) := by
  obtain ⟨d, hd, rd⟩ := ra.get hv
  rw [List.getElem?_map, ea] at hd
  cases hd
  exact rd
theorem at_map' {α : Type} {K : Fr} {F : Hp} {f : α → PyData} {as : List α} {vs : List V} {i : Nat} {a : α} (ra : RpA K F vs (as.map f)) (ea : as[i]? = some a) : ∃ v, vs[i]? = some v ∧ Rp K F v (f a) := by
  have hd : (as.map f)[i]? = some (f a) := by rw [List.getElem?_map, ea]; rfl
  exact ra.get' hd
/-- over a tuple -/
theorem ws_forT {α : Type} {g : TG} {tS : TS} (f : α → PyData) (h : WD B K te ρ fun x ρ1 => ∃ as : List α, x = .tuple (as.map f) ∧ Loop B K g tS f as ρ1 Z) : WS B K (tFor (iTup K te) g tS) ρ Z := fun F H σ E D ok =>
  h F H σ E _ fun v x F1 H1 ρ1 E1 e1 rv ⟨as, hx, I, i0, is, id⟩ => by
    subst hx
    cases rv with
    | @tup a vs xs ha ra =>
    have hl : vs.length = as.length := by rw [ra.length, List.length_map]
    refine ⟨a, rfl, ⟨vs, E1.fh.stt ha⟩, loop_gen (f := f) (as := as) (fun _ => True) E1 e1 ok (fun i b F2 H2 σ2 ρ2 ea E2 e2 _ => ?_) (fun i F2 H2 σ2 ρ2 hi E2 e2 _ => ⟨vs, E2.fh.stt (e2.stt ha), by omega⟩) (fun i b F2 H2 σ2 ρ2 y H' ea E2 e2 _ hy => ?_) I (fun _ _ _ => trivial) i0 is id⟩
    · obtain ⟨w, hw, _⟩ := at_map' ra ea
      exact ⟨vs, w, E2.fh.stt (e2.stt ha), hw⟩
    · obtain ⟨rfl, hy⟩ := hy
      exact ⟨F2, E2, Ex.refl F2, Rp.mono e2 (at_map ra ea (hy vs (E2.fh.stt (e2.stt ha))))⟩
/-- over a list that the frame owns and leaves as it is -/
theorem ws_forO {α : Type} {g : TG} {tS : TS} (f : α → PyData) {j : Nat} {as : List α} (hj : ρ[j]? = some (some (.own (as.map f)))) (I : List α → En → Prop) (ic : ∀ pre ρ', I pre ρ' → ρ'[j]? = some (some (.own (as.map f))) ∧ True) (i0 : I [] ρ)
    (is : ∀ pre a post ρ2, as = pre ++ a :: post → I pre ρ2 → WG B K g (f a) ρ2 fun ρ3 => WS B K tS ρ3 (Z.lp (I (pre ++ [a])))) (id : ∀ ρ2, I as ρ2 → Z.nx ρ2) (keep : ∀ F H σ ρ', EnvOk B K F H σ ρ' → ρ'[j]? = some (some (.own (as.map f))) → ∀ a, B.pin = some (j, a) → σ[j]? = some (some (.ref a))) (np : ∃ a, B.pin = some (j, a)) : WS B K (tFor (iList K (tVar j)) g tS) ρ Z := fun F H σ E D ok => by
  obtain ⟨a, ha⟩ := np
  have sj : ∀ {F H σ ρ}, EnvOk B K F H σ ρ → σ[j]? = some (some (.ref a)) := fun E => (E.pin j a ha).1
  obtain ⟨a', vs, e, _, k2, k3⟩ := E.own_at hj
  refine ⟨.ref a', e, a', rfl, ⟨vs, .inl (.inl k2)⟩, ?_⟩
  rw [sj E] at e
  cases e
  refine loop_gen (f := f) (as := as) (fun ρ' => ρ'[j]? = some (some (.own (as.map f)))) E (Ex.refl F) ok (fun i b F2 H2 σ2 ρ2 ea E2 e2 c => ?_) (fun i F2 H2 σ2 ρ2 hi E2 e2 c => ?_) (fun i b F2 H2 σ2 ρ2 y H' ea E2 e2 c hy => ?_) I (fun pre ρ' q => (ic pre ρ' q).1) i0 is id
  all_goals obtain ⟨b', ws, e', _, m2, m3⟩ := E2.own_at c
  all_goals rw [sj E2] at e'
  all_goals cases e'
  · obtain ⟨w, hw, _⟩ := at_map' m3 ea
    exact ⟨ws, w, .inl (.inl m2), hw⟩
  · exact ⟨ws, .inl (.inl m2), by rw [m3.length, List.length_map]; exact hi⟩
  · obtain ⟨rfl, hy⟩ := hy
    exact ⟨F2, E2, Ex.refl F2, at_map m3 ea (hy ws (.inl (.inl m2)))⟩
/-- sign by sign -/
def strD (c : Nat) : PyData := .str ⟨#[c]⟩
theorem ws_forS {g : TG} {tS : TS} (h : WD B K te ρ fun x ρ1 => ∃ z : Str, x = .str z ∧ Loop B K g tS strD z.cps.toList ρ1 Z) : WS B K (tFor (iStr te) g tS) ρ Z := fun F H σ E D ok =>
  h F H σ E _ fun v x F1 H1 ρ1 E1 e1 rv ⟨z, hx, I, i0, is, id⟩ => by
    subst hx
    cases rv
    refine ⟨z, rfl, loop_gen (f := strD) (as := z.cps.toList) (fun _ => True) E1 e1 ok (fun i b F2 H2 σ2 ρ2 ea E2 e2 _ => ?_) (fun i F2 H2 σ2 ρ2 hi E2 e2 _ => ?_) (fun i b F2 H2 σ2 ρ2 y H' ea E2 e2 _ hy => ?_) I (fun _ _ _ => trivial) i0 is id⟩
    · show i < z.cps.size
      rw [← Array.length_toList]
      exact (List.getElem?_eq_some_iff.mp ea).1
    · show z.cps.size ≤ i
      rw [← Array.length_toList]
      exact hi
    · obtain ⟨rfl, c, hc, rfl⟩ := hy
      rw [Array.getElem?_toList, hc] at ea
      cases ea
      exact ⟨F2, E2, Ex.refl F2, Rp.str _⟩
/-- over the script -/
theorem ws_forScr {g : TG} {tS : TS} {j : Nat} {ns : List Int} (hj : ρ[j]? = some (some (.scr ns))) (h : Loop B K g tS PyData.int ns ρ Z) : WS B K (tFor (iList K (tVar j)) g tS) ρ Z := fun F H σ E D ok => by
  obtain ⟨I, i0, is, id⟩ := h
  obtain ⟨v, e, a, hv, hs⟩ := E.sl j _ hj
  subst hv
  refine ⟨.ref a, e, a, rfl, ⟨_, E.fh.sl hs⟩, loop_gen (f := PyData.int) (as := ns) (fun _ => True) E (Ex.refl F) ok (fun i b F2 H2 σ2 ρ2 ea E2 e2 _ => ?_) (fun i F2 H2 σ2 ρ2 hi E2 e2 _ => ⟨_, E2.fh.sl (e2.sl hs), by rw [List.length_map]; exact hi⟩) (fun i b F2 H2 σ2 ρ2 y H' ea E2 e2 _ hy => ?_) I (fun _ _ _ => trivial) i0 is id⟩
  · exact ⟨_, .int b, E2.fh.sl (e2.sl hs), by rw [List.getElem?_map, ea]; rfl⟩
  · obtain ⟨rfl, hy⟩ := hy
    have q := hy _ (E2.fh.sl (e2.sl hs))
    rw [List.getElem?_map, ea] at q
    cases q
    exact ⟨F2, E2, Ex.refl F2, Rp.int _⟩
/-- over range(n), range(a, b): the turns 0, 1, .. -/
def ixs (lo : Int) (n : Nat) : List Int := (List.range n).map fun (k : Nat) => lo + (k : Int)
theorem ixs_at {lo : Int} {n i : Nat} : (ixs lo n)[i]? = if i < n then some (lo + (i : Int)) else none := by
  unfold ixs
  rw [List.getElem?_map]
  by_cases h : i < n
  · rw [List.getElem?_range h, if_pos h]; rfl
  · rw [List.getElem?_eq_none (by rw [List.length_range]; omega), if_neg h]; rfl
theorem ixs_len {lo : Int} {n : Nat} : (ixs lo n).length = n := by unfold ixs; rw [List.length_map, List.length_range]
theorem for_itr {g : TG} {tS : TS} {lo : Int} {n : Nat} {F0 F1 H1 : Hp} {σ : L2.St} {ρ1 : En} {D : Ends} (E1 : EnvOk B K F1 H1 σ ρ1) (e1 : Ex F0 F1) (ok : ZOk B K F0 Z D) (h : Loop B K g tS PyData.int (ixs lo n) ρ1 Z) :
    ∃ W : Nat → Nat → L2.St → Hp → Prop, (∃ m, W 0 m σ H1) ∧ ∀ i m σ H, W i m σ H →
      ((Itr lo n).stop i H ∧ D.nx σ H) ∨ ((Itr lo n).go i H ∧ ∃ N : L2.St → Hp → Prop, (∀ σ' H', N σ' H' → ∃ m', m' < m ∧ W (i + 1) m' σ' H') ∧ ∀ x H', (Itr lo n).yld i H x H' → g x σ H' fun σ2 H2 => tS { D with nx := N, ct := N, bk := D.nx } σ2 H2) := by
  obtain ⟨I, i0, is, id⟩ := h
  refine loop_gen (f := PyData.int) (as := ixs lo n) (fun _ => True) E1 e1 ok (fun i b F2 H2 σ2 ρ2 ea E2 e2 _ => ?_) (fun i F2 H2 σ2 ρ2 hi E2 e2 _ => ?_) (fun i b F2 H2 σ2 ρ2 y H' ea E2 e2 _ hy => ?_) I (fun _ _ _ => trivial) i0 is id
  · have := (List.getElem?_eq_some_iff.mp ea).1
    rw [ixs_len] at this
    exact this
  · rw [ixs_len] at hi
    exact hi
  · obtain ⟨rfl, rfl⟩ := hy
    rw [ixs_at] at ea
    split at ea
    · cases ea
      exact ⟨F2, E2, Ex.refl F2, Rp.int _⟩
    · cases ea
theorem ws_for1 {g : TG} {tS : TS} (h : WD B K te ρ fun x ρ1 => ∃ n : Int, x = .int n ∧ -1000000 ≤ n ∧ n ≤ 1000000 ∧ Loop B K g tS PyData.int (ixs 0 n.toNat) ρ1 Z) : WS B K (tFor (iRng1 (tCons te tNil)) g tS) ρ Z := fun F H σ E D ok =>
  h F H σ E _ fun v x F1 H1 ρ1 E1 e1 rv ⟨n, hx, n0, n1, q⟩ => by
    subst hx
    cases rv
    exact ⟨n, rfl, by omega, by omega, for_itr E1 e1 ok q⟩
theorem ws_for2 {g : TG} {tS : TS} (h : WD B K ta ρ fun x ρ1 => ∃ m : Int, x = .int m ∧ WD B K tb ρ1 fun y ρ2 => ∃ n : Int, y = .int n ∧ (-1000000 ≤ m ∧ m ≤ 1000000 ∧ -1000000 ≤ n ∧ n ≤ 1000000) ∧ Loop B K g tS PyData.int (ixs m (n - m).toNat) ρ2 Z) : WS B K (tFor (iRng2 (tCons ta (tCons tb tNil))) g tS) ρ Z := fun F H σ E D ok =>
  h F H σ E _ fun v x F1 H1 ρ1 E1 e1 rv ⟨m, hx, q⟩ => q F1 H1 σ E1 _ fun u y F2 H2 ρ2 E2 e2 ru ⟨n, hy, ⟨n0, n1, n2, n3⟩, q⟩ => by
    subst hx hy
    cases rv; cases ru
    exact ⟨m, n, rfl, ⟨by omega, by omega, by omega, by omega⟩, for_itr E2 (e1.trans e2) ok q⟩
/-! ### while -/
theorem ws_while {c : TT} {tS : TS} (W : Nat → En → Prop) (h0 : ∃ m, W m ρ) (hs : ∀ m ρ1, W m ρ1 → WT B K c ρ1 fun b ρ2 => (b = true → WS B K tS ρ2 (Z.lp fun ρ' => ∃ m', m' < m ∧ W m' ρ')) ∧ (b = false → Z.nx ρ2)) :
    WS B K (tWhile c tS) ρ Z := fun F H σ E D ok => by
  obtain ⟨m0, w0⟩ := h0
  refine ⟨fun m σ H => ∃ F' ρ', EnvOk B K F' H σ ρ' ∧ Ex F F' ∧ W m ρ', ⟨m0, F, ρ, E, Ex.refl F, w0⟩, ?_⟩
  rintro m σ1 H1 ⟨F1, ρ1, E1, e1, w1⟩
  refine hs m ρ1 w1 F1 H1 σ1 E1 _ fun b F2 H2 ρ2 E2 e2 q => ?_
  have e12 := e1.trans e2
  cases b with
  | false => exact ok.nx F2 H2 σ1 ρ2 E2 e12 (q.2 rfl)
  | true =>
    refine ⟨fun σ' H' => ∃ m', m' < m ∧ ∃ F' ρ', EnvOk B K F' H' σ' ρ' ∧ Ex F F' ∧ W m' ρ', fun _ _ z => z, ?_⟩
    exact q.1 rfl F2 H2 σ1 E2 _ ⟨fun F3 H3 σ3 ρ3 E3 e3 ⟨m', l, w⟩ => ⟨m', l, F3, ρ3, E3, e12.trans e3, w⟩, fun F3 H3 σ3 ρ3 v r E3 e3 rv q3 => ok.rt F3 H3 σ3 ρ3 v r E3 (e12.trans e3) rv q3,
      fun F3 H3 σ3 ρ3 E3 e3 q3 => ok.nx F3 H3 σ3 ρ3 E3 (e12.trans e3) q3, fun F3 H3 σ3 ρ3 E3 e3 ⟨m', l, w⟩ => ⟨m', l, F3, ρ3, E3, e12.trans e3, w⟩⟩

/-! ### comprehensions -/
inductive Sel {α : Type} (P : α → Option PyData → Prop) : List α → List PyData → Prop
  | nil : Sel P [] []
  | yes {a : α} {as : List α} {y : PyData} {ys : List PyData} : Sel P as ys → P a (some y) → Sel P (as ++ [a]) (ys ++ [y])
  | no {a : α} {as : List α} {ys : List PyData} : Sel P as ys → P a none → Sel P (as ++ [a]) ys
theorem Sel.len {α : Type} {P : α → Option PyData → Prop} {as : List α} {ys : List PyData} (s : Sel P as ys) : ys.length ≤ as.length := by
  induction s with
  | nil => exact Nat.le_refl _
  | yes _ _ ih => rw [List.length_append, List.length_append]; exact Nat.add_le_add_right ih 1
  | no _ _ ih => rw [List.length_append]; exact Nat.le_add_right_of_le ih
/-- all items, each by a function -/
theorem Sel.map {α : Type} {f : α → PyData} {as : List α} {ys : List PyData} (s : Sel (fun a o => o = some (f a)) as ys) : ys = as.map f := by
  induction s with
  | nil => rfl
  | yes _ h ih => cases h; rw [ih, List.map_append]; rfl
  | no _ h => cases h
/-- the items that pass a test, each by a function -/
theorem Sel.filter {α : Type} {f : α → PyData} {p : α → Bool} {as : List α} {ys : List PyData} (s : Sel (fun a o => o = if p a = true then some (f a) else none) as ys) : ys = (as.filter p).map f := by
  induction s with
  | nil => rfl
  | @yes a as y ys _ h ih =>
    rw [ih, List.filter_append, List.map_append]
    by_cases c : p a = true
    · rw [if_pos c] at h
      cases h
      rw [List.filter_cons_of_pos c]
      rfl
    · rw [if_neg c] at h
      cases h
  | @no a as ys _ h ih =>
    rw [ih, List.filter_append, List.map_append]
    by_cases c : p a = true
    · rw [if_pos c] at h
      cases h
    · rw [List.filter_cons_of_neg c]
      simp
/-! the targets of a comprehension: names, a tuple of names -/
inductive GVs : TGs → List Nat → Prop
  | nil : GVs gNil []
  | cons {gs : TGs} {vs : List Nat} (i : Nat) : GVs gs vs → GVs (gCons (gName i) gs) (i :: vs)
inductive GV : TG → List Nat → Prop
  | name (i : Nat) : GV (gName i) [i]
  | tup {K : Fr} {n : Nat} {gs : TGs} {vs : List Nat} : GVs gs vs → GV (gTup K n gs) vs
theorem GVs.stay {gs : TGs} {vs : List Nat} (gv : GVs gs vs) : ∀ {xs : List V} {σ : L2.St} {H : Hp} {QQ QQ' : L2.St → Hp → Prop}, gs xs σ H QQ → (∀ (σ' : L2.St) H', σ'.length = σ.length → (∀ k, k ∉ vs → σ'[k]? = σ[k]?) → QQ σ' H' → QQ' σ' H') → gs xs σ H QQ' := by
  induction gv with
  | nil => intro xs σ H QQ QQ' h c; exact ⟨h.1, c σ H rfl (fun _ _ => rfl) h.2⟩
  | @cons gs vs i _ ih =>
    intro xs σ H QQ QQ' h c
    obtain ⟨v, r, e, h⟩ := h
    refine ⟨v, r, e, ?_⟩
    refine ih (show gs r (σ.set i (some v)) H QQ from h) fun σ' H' hl hk q => c σ' H' (by rw [hl, List.length_set]) (fun k hn => ?_) q
    rw [hk k fun z => hn (List.mem_cons_of_mem _ z), List.getElem?_set_ne fun z => hn (by rw [z]; exact List.mem_cons_self)]
theorem GV.stay {g : TG} {vs : List Nat} (gv : GV g vs) {x : V} {σ : L2.St} {H : Hp} {QQ QQ' : L2.St → Hp → Prop} (h : g x σ H QQ) (c : ∀ (σ' : L2.St) H', σ'.length = σ.length → (∀ k, k ∉ vs → σ'[k]? = σ[k]?) → QQ σ' H' → QQ' σ' H') : g x σ H QQ' := by
  cases gv with
  | name i => exact c _ H (List.length_set ..) (fun k hn => List.getElem?_set_ne fun z => hn (by rw [z]; exact List.mem_cons_self)) h
  | tup gs =>
    obtain ⟨a, xs, e, hs, hn, q⟩ := h
    exact ⟨a, xs, e, hs, hn, gs.stay q c⟩
theorem wipe_in {σ : L2.St} {k : Nat} : ∀ {vs : List Nat}, k ∈ vs → k < σ.length → (wipe σ vs)[k]? = some none
  | v :: vs, h, hk => by
    show ((wipe σ vs).set v none)[k]? = some none
    by_cases e : v = k
    · subst e
      rw [List.getElem?_set_self (by rw [wipe_length]; exact hk)]
    · rw [List.getElem?_set_ne e]
      exact wipe_in ((List.mem_cons.mp h).resolve_left fun z => e z.symm) hk
theorem wipe_eq {σ τ : L2.St} {vs : List Nat} (hl : τ.length = σ.length) (h : ∀ k, k ∉ vs → τ[k]? = (wipe σ vs)[k]?) : wipe τ vs = wipe σ vs := by
  refine List.ext_getElem? fun k => ?_
  by_cases hk : k ∈ vs
  · by_cases hl2 : k < σ.length
    · rw [wipe_in hk hl2, wipe_in hk (by rw [hl]; exact hl2)]
    · rw [List.getElem?_eq_none (by rw [wipe_length]; omega), List.getElem?_eq_none (by rw [wipe_length]; omega)]
  · rw [wipe_out hk, h k hk]
def hideO : Option L → Option L
  | some (.own _) => none
  | some (.deep _) => none
  | some (.ownD _ _) => none
  | o => o
def hide (ρ : En) : En := ρ.map hideO
def wipeE (ρ : En) : List Nat → En
  | [] => ρ
  | v :: vs => (wipeE ρ vs).set v none
theorem hide_at {ρ : En} {i : Nat} {l : L} (h : (hide ρ)[i]? = some (some l)) : ρ[i]? = some (some l) ∧ l.pl = true := by
  unfold hide at h
  rw [List.getElem?_map] at h
  cases e : ρ[i]? with
  | none => rw [e] at h; cases h
  | some o =>
    rw [e] at h
    have h' : hideO o = some l := Option.some.inj h
    cases o with
    | none => cases h'
    | some l' =>
      cases l' with
      | own xs => cases h'
      | deep t => cases h'
      | ownD ks xs => cases h'
      | d x => cases h'; exact ⟨rfl, rfl⟩
      | scr x => cases h'; exact ⟨rfl, rfl⟩
      | raw x => cases h'; exact ⟨rfl, rfl⟩
theorem LFp.no {v : V} {l : L} {a : Addr} (h : l.pl = true) : ¬ LFp v l a := by
  cases l <;> first | (intro k; exact (show False from k)) | cases h
theorem hide_no {σ : L2.St} {ρ : En} {i : Nat} {a : Addr} : ¬ SFp σ (hide ρ) i a := fun ⟨_, _, e, _, h⟩ => LFp.no (hide_at e).2 h
theorem hide_len (ρ : En) : (hide ρ).length = ρ.length := List.length_map ..
theorem wipeE_len (ρ : En) : ∀ vs : List Nat, (wipeE ρ vs).length = ρ.length
  | [] => rfl
  | v :: vs => by unfold wipeE; rw [List.length_set, wipeE_len ρ vs]
/-- within a comprehension: a base of its own, the own lists out of sight -/
theorem EnvOk.inner {F H : Hp} {σ : L2.St} (E : EnvOk B K F H σ ρ) (vs : List Nat) : EnvOk ⟨F, H, none⟩ K F H (wipe σ vs) (wipeE (hide ρ) vs) := by
  have base : EnvOk ⟨F, H, none⟩ K F H σ (hide ρ) := by
    refine ⟨⟨Ex.refl F, E.fh, fun a o e _ => e, fun a h => h, fun a h _ => h⟩, E.len.trans (hide_len ρ).symm, fun i l e => E.sl i l (hide_at e).1, fun i j a e1 _ => absurd e1 hide_no, fun i a e1 => absurd e1 hide_no, fun i a e => nomatch e⟩
  induction vs with
  | nil => exact base
  | cons v vs ih => exact ih.forget fun a e => nomatch e
/-- an object that is neither frozen nor a slot's is changed -/
theorem EnvOk.poke {F H : Hp} {σ : L2.St} (E : EnvOk B K F H σ ρ) {p : Addr} {o : HO} (hF : F p = none) (h0 : B.H0 p = none) (hs : ∀ i, ¬ SFp σ ρ i p) : EnvOk B K F (upd H p o) σ ρ := by
  refine ⟨⟨E.st.f0, fun a u e => ?_, fun a u e n => ?_, fun a h => ?_, E.st.nf⟩, E.len, E.sl_mono (Ex.refl F) fun i a h => ⟨(E.live h).1, upd_ne fun z => hs i (by rw [← z]; exact h)⟩, E.sep, E.mine, E.pin⟩
  · rw [upd_ne fun z => by rw [z, hF] at e; cases e]; exact E.fh a u e
  · rw [upd_ne fun z => by rw [z, h0] at e; cases e]; exact E.st.h0 a u e n
  · by_cases z : a = p
    · rw [z, upd_same]; exact fun z => nomatch z
    · rw [upd_ne z]; exact E.st.th a h
theorem St1.stp {F H F' H' : Hp} (s : St1 ⟨F, H, none⟩ F' H') : Stp F H F' H' := ⟨s.f0, s.fh, fun a o e => s.h0 a o e (fun _ z => nomatch z), s.nf⟩
/-- what a comprehension over the items as wants -/
def Comp {α : Type} (K : Fr) (g : TG) (tt : TT) (te : TE) (vs : List Nat) (f : α → PyData) (as : List α) (ρ : En) (P : α → Option PyData → Prop) : Prop :=
  ∀ a, a ∈ as → ∀ B : Bs, B.pin.map Prod.fst = none → WG B K g (f a) (wipeE (hide ρ) vs) fun ρ2 => WT B K tt ρ2 fun b ρ3 => (b = true → WD B K te ρ3 fun y _ => P a (some y)) ∧ (b = false → P a none)
theorem lc_gen {α : Type} {J : It} {g : TG} {tt : TT} {vs : List Nat} {f : α → PyData} {as : List α} {P : α → Option PyData → Prop} {F0 F1 H1 : Hp} {σ : L2.St} {ρ1 : En} {QQ : VK} (gv : GV g vs) (E1 : EnvOk B K F1 H1 σ ρ1) (e1 : Ex F0 F1) (hz : as.length ≤ lim)
    (go : ∀ (i : Nat) (a : α) F H, as[i]? = some a → Ex F1 F → Ex F H → J.go i H)
    (stop : ∀ (i : Nat) F H, as.length ≤ i → Ex F1 F → Ex F H → J.stop i H)
    (yld : ∀ (i : Nat) (a : α) B F H σ ρ x H', as[i]? = some a → EnvOk B K F H σ ρ → Ex F1 F → J.yld i H x H' → ∃ F', EnvOk B K F' H' σ ρ ∧ Ex F F' ∧ Rp K F' x (f a))
    (h : Comp K g tt te vs f as ρ1 P) (k : ∀ v F' H' ys, EnvOk B K F' H' σ ρ1 → Ex F0 F' → ROk B K F' H' σ ρ1 v (.new ys) → Sel P as ys → QQ v H') :
    ∀ D, H1 D = none → ∃ W : Nat → Nat → Hp → Prop, (∃ m, W 0 m (upd H1 D (.lst []))) ∧ ∀ i m H, W i m H →
      (J.stop i H ∧ QQ (.ref D) H) ∨ (J.go i H ∧ ∃ Nx : Hp → Prop, (∀ H', Nx H' → ∃ m', m' < m ∧ W (i + 1) m' H') ∧ ∀ x H', J.yld i H x H' → g x (wipe σ vs) H' fun σ2 H2 => wipe σ2 vs = wipe σ vs ∧ tt σ2 H2 fun b H3 =>
        if b = true then te σ2 H3 fun y H4 => ∃ acc, H4 D = some (.lst acc) ∧ acc.length < sizeLine ∧ Nx (upd H4 D (.lst (acc ++ [y]))) else Nx H3) := by
  intro D hD
  have hs : ∀ i, ¬ SFp σ ρ1 i D := fun i => E1.fr hD i
  have h0 : B.H0 D = none := E1.h0p hD
  refine ⟨fun i m H => m = as.length - i ∧ i ≤ as.length ∧ ∃ F acc ys, EnvOk B K F H σ ρ1 ∧ Ex F1 F ∧ F D = none ∧ H D = some (.lst acc) ∧ RpA K F acc ys ∧ Sel P (as.take i) ys,
    ⟨as.length, (Nat.sub_zero _).symm, Nat.zero_le _, F1, [], [], E1.allocO hD, Ex.refl F1, E1.fh.free hD, upd_same, .nil, .nil⟩, ?_⟩
  rintro i m H2 ⟨rfl, hi, F2, acc, ys, E2, e2, fD, hD2, ra, sel⟩
  by_cases hlt : i < as.length
  · have ea : as[i]? = some as[i] := List.getElem?_eq_getElem hlt
    refine .inr ⟨go i _ F2 H2 ea e2 E2.fh, fun H' => ∃ F acc ys, EnvOk B K F H' σ ρ1 ∧ Ex F1 F ∧ F D = none ∧ H' D = some (.lst acc) ∧ RpA K F acc ys ∧ Sel P (as.take (i + 1)) ys, fun H' p' => ⟨as.length - (i + 1), by omega, rfl, hlt, p'⟩, fun x H' y => ?_⟩
    obtain ⟨F', E', e', rx⟩ := yld i _ _ F2 H2 _ _ x H' ea (E2.inner vs) e2 y
    refine gv.stay (h as[i] (List.getElem_mem hlt) _ rfl F' H' _ x E' rx (fun σ2 H3 => tt σ2 H3 fun b H4 => if b = true then te σ2 H4 fun y H5 => ∃ acc, H5 D = some (.lst acc) ∧ acc.length < sizeLine ∧ ∃ F acc' ys, EnvOk B K F (upd H5 D (.lst (acc ++ [y]))) σ ρ1 ∧ Ex F1 F ∧ F D = none ∧ (upd H5 D (.lst (acc ++ [y]))) D = some (.lst acc') ∧ RpA K F acc' ys ∧ Sel P (as.take (i + 1)) ys
      else ∃ F acc ys, EnvOk B K F H4 σ ρ1 ∧ Ex F1 F ∧ F D = none ∧ H4 D = some (.lst acc) ∧ RpA K F acc ys ∧ Sel P (as.take (i + 1)) ys) fun F3 H3 σ3 ρ3 E3 e3 q3 => ?_) fun σ3 H3 hl hk q => ⟨wipe_eq (by rw [hl, wipe_length]) hk, q⟩
    refine q3 F3 H3 σ3 E3 _ fun b F4 H4 ρ4 E4 e4 q4 => ?_
    cases b with
    | true =>
      refine q4.1 rfl F4 H4 σ3 E4 _ fun v y F5 H5 ρ5 E5 e5 rv q5 => ?_
      have st := E5.st.stp
      have E6 := E2.step st
      have hD5 := st.eh D _ hD2
      have fD5 := st.nf D fD (by rw [hD2]; exact fun z => nomatch z)
      refine ⟨acc, hD5, ?_, F5, acc ++ [v], ys ++ [y], E6.poke fD5 h0 hs, e2.trans st.ef, fD5, upd_same, (ra.mono st.ef).append (.cons rv .nil), ?_⟩
      · have l1 := sel.len
        rw [List.length_take] at l1
        rw [ra.length]
        exact lim_lt (by omega)
      · rw [take_snoc ea]
        exact .yes sel q5
    | false =>
      have st := E4.st.stp
      have E6 := E2.step st
      refine ⟨F4, acc, ys, E6, e2.trans st.ef, st.nf D fD (by rw [hD2]; exact fun z => nomatch z), st.eh D _ hD2, ra.mono st.ef, ?_⟩
      rw [take_snoc ea]
      exact .no sel (q4.2 rfl)
  · have e : i = as.length := by omega
    subst e
    rw [List.take_length] at sel
    exact .inl ⟨stop _ F2 H2 (Nat.le_refl _) e2 E2.fh, k _ F2 H2 ys E2 (e1.trans e2) ⟨D, acc, rfl, fD, hD2, ra, h0, hs⟩ sel⟩
/-- over a list, a tuple, a range, the script -/
theorem we_lcL {α : Type} {tl : TE} {g : TG} {tt : TT} {vs : List Nat} (f : α → PyData) (P : α → Option PyData → Prop) (gv : GV g vs) (h : WD B K tl ρ fun x ρ1 => ∃ as : List α, x = .list (as.map f) ∧ as.length ≤ lim ∧ Comp K g tt te vs f as ρ1 P ∧ ∀ ys, Sel P as ys → Q (.new ys) ρ1) :
    WE B K (tLc (iList K tl) g tt te vs) ρ Q := fun F H σ E QQ k =>
  h F H σ E _ fun v x F1 H1 ρ1 E1 e1 rv ⟨as, hx, hz, hc, q⟩ => by
    subst hx
    cases rv with
    | @lst a ws xs ha ra =>
    have hl : ws.length = as.length := by rw [ra.length, List.length_map]
    refine ⟨a, rfl, ⟨ws, .inl (.inl (E1.fh _ _ ha))⟩, lc_gen (J := Itl K a) gv E1 e1 hz (fun i b F2 H2 ea e2 fh => ?_) (fun i F2 H2 hi e2 fh => ⟨ws, .inl (.inl (fh _ _ (e2 _ _ ha))), by omega⟩) (fun i b B2 F2 H2 σ2 ρ2 y H' ea E2 e2 hy => ?_) hc fun v F2 H2 ys E2 e2 rv2 sel => k v (.new ys) F2 H2 ρ1 E2 e2 rv2 (q ys sel)⟩
    · obtain ⟨w, hw, _⟩ := at_map' ra ea
      exact ⟨ws, w, .inl (.inl (fh _ _ (e2 _ _ ha))), hw⟩
    · obtain ⟨rfl, hy⟩ := hy
      exact ⟨F2, E2, Ex.refl F2, Rp.mono e2 (at_map ra ea (hy ws (.inl (.inl (E2.fh _ _ (e2 _ _ ha))))))⟩
theorem we_lcT {α : Type} {tl : TE} {g : TG} {tt : TT} {vs : List Nat} (f : α → PyData) (P : α → Option PyData → Prop) (gv : GV g vs) (h : WD B K tl ρ fun x ρ1 => ∃ as : List α, x = .tuple (as.map f) ∧ as.length ≤ lim ∧ Comp K g tt te vs f as ρ1 P ∧ ∀ ys, Sel P as ys → Q (.new ys) ρ1) :
    WE B K (tLc (iTup K tl) g tt te vs) ρ Q := fun F H σ E QQ k =>
  h F H σ E _ fun v x F1 H1 ρ1 E1 e1 rv ⟨as, hx, hz, hc, q⟩ => by
    subst hx
    cases rv with
    | @tup a ws xs ha ra =>
    have hl : ws.length = as.length := by rw [ra.length, List.length_map]
    refine ⟨a, rfl, ⟨ws, E1.fh.stt ha⟩, lc_gen (J := Itt K a) gv E1 e1 hz (fun i b F2 H2 ea e2 fh => ?_) (fun i F2 H2 hi e2 fh => ⟨ws, fh.stt (e2.stt ha), by omega⟩) (fun i b B2 F2 H2 σ2 ρ2 y H' ea E2 e2 hy => ?_) hc fun v F2 H2 ys E2 e2 rv2 sel => k v (.new ys) F2 H2 ρ1 E2 e2 rv2 (q ys sel)⟩
    · obtain ⟨w, hw, _⟩ := at_map' ra ea
      exact ⟨ws, w, fh.stt (e2.stt ha), hw⟩
    · obtain ⟨rfl, hy⟩ := hy
      exact ⟨F2, E2, Ex.refl F2, Rp.mono e2 (at_map ra ea (hy ws (E2.fh.stt (e2.stt ha))))⟩
theorem we_lcScr {g : TG} {tt : TT} {vs : List Nat} {j : Nat} {ns : List Int} (P : Int → Option PyData → Prop) (gv : GV g vs) (hj : ρ[j]? = some (some (.scr ns))) (hz : ns.length ≤ lim) (hc : Comp K g tt te vs PyData.int ns ρ P) (q : ∀ ys, Sel P ns ys → Q (.new ys) ρ) :
    WE B K (tLc (iList K (tVar j)) g tt te vs) ρ Q := fun F H σ E QQ k => by
  obtain ⟨v, e, a, hv, hs⟩ := E.sl j _ hj
  subst hv
  refine ⟨.ref a, e, a, rfl, ⟨_, E.fh.sl hs⟩, lc_gen (J := Itl K a) gv E (Ex.refl F) hz (fun i b F2 H2 ea e2 fh => ⟨_, .int b, fh.sl (e2.sl hs), by rw [List.getElem?_map, ea]; rfl⟩) (fun i F2 H2 hi e2 fh => ⟨_, fh.sl (e2.sl hs), by rw [List.length_map]; exact hi⟩) (fun i b B2 F2 H2 σ2 ρ2 y H' ea E2 e2 hy => ?_) hc fun v F2 H2 ys E2 e2 rv2 sel => k v (.new ys) F2 H2 ρ E2 e2 rv2 (q ys sel)⟩
  obtain ⟨rfl, hy⟩ := hy
  have q := hy _ (E2.fh.sl (e2.sl hs))
  rw [List.getElem?_map, ea] at q
  cases q
  exact ⟨F2, E2, Ex.refl F2, Rp.int _⟩
theorem lc_itr {g : TG} {tt : TT} {vs : List Nat} {lo : Int} {n : Nat} {P : Int → Option PyData → Prop} {F0 F1 H1 : Hp} {σ : L2.St} {ρ1 : En} {QQ : VK} (gv : GV g vs) (E1 : EnvOk B K F1 H1 σ ρ1) (e1 : Ex F0 F1) (hz : n ≤ lim) (h : Comp K g tt te vs PyData.int (ixs lo n) ρ1 P)
    (k : ∀ v F' H' ys, EnvOk B K F' H' σ ρ1 → Ex F0 F' → ROk B K F' H' σ ρ1 v (.new ys) → Sel P (ixs lo n) ys → QQ v H') : ∀ D, H1 D = none → ∃ W : Nat → Nat → Hp → Prop, (∃ m, W 0 m (upd H1 D (.lst []))) ∧ ∀ i m H, W i m H →
      ((Itr lo n).stop i H ∧ QQ (.ref D) H) ∨ ((Itr lo n).go i H ∧ ∃ Nx : Hp → Prop, (∀ H', Nx H' → ∃ m', m' < m ∧ W (i + 1) m' H') ∧ ∀ x H', (Itr lo n).yld i H x H' → g x (wipe σ vs) H' fun σ2 H2 => wipe σ2 vs = wipe σ vs ∧ tt σ2 H2 fun b H3 =>
        if b = true then te σ2 H3 fun y H4 => ∃ acc, H4 D = some (.lst acc) ∧ acc.length < sizeLine ∧ Nx (upd H4 D (.lst (acc ++ [y]))) else Nx H3) := by
  refine lc_gen (J := Itr lo n) (f := PyData.int) (as := ixs lo n) gv E1 e1 (by rw [ixs_len]; exact hz) (fun i b F2 H2 ea e2 fh => ?_) (fun i F2 H2 hi e2 fh => ?_) (fun i b B2 F2 H2 σ2 ρ2 y H' ea E2 e2 hy => ?_) h k
  · have := (List.getElem?_eq_some_iff.mp ea).1
    rw [ixs_len] at this
    exact this
  · rw [ixs_len] at hi
    exact hi
  · obtain ⟨rfl, rfl⟩ := hy
    rw [ixs_at] at ea
    split at ea
    · cases ea
      exact ⟨F2, E2, Ex.refl F2, Rp.int _⟩
    · cases ea
theorem we_lc1 {tn : TE} {g : TG} {tt : TT} {vs : List Nat} (P : Int → Option PyData → Prop) (gv : GV g vs) (h : WD B K tn ρ fun x ρ1 => ∃ n : Int, x = .int n ∧ -1000000 ≤ n ∧ n ≤ 1000000 ∧ Comp K g tt te vs PyData.int (ixs 0 n.toNat) ρ1 P ∧ ∀ ys, Sel P (ixs 0 n.toNat) ys → Q (.new ys) ρ1) :
    WE B K (tLc (iRng1 (tCons tn tNil)) g tt te vs) ρ Q := fun F H σ E QQ k =>
  h F H σ E _ fun v x F1 H1 ρ1 E1 e1 rv ⟨n, hx, n0, n1, hc, q⟩ => by
    subst hx
    cases rv
    exact ⟨n, rfl, by omega, by omega, lc_itr gv E1 e1 (by show n.toNat ≤ 1000000; omega) hc fun v F2 H2 ys E2 e2 rv2 sel => k v (.new ys) F2 H2 ρ1 E2 e2 rv2 (q ys sel)⟩
end
end SV

set_option maxHeartbeats 1000000
namespace SV
open PySem PySem.Spec L2
open Evl (Ex)

/-! ### what a def is worth, over plain data -/
abbrev GF := List L → (R → List PyData → Prop) → (Addr → Prop) → Prop
def pinAt (pin : Option Nat) (vs : List V) : Option (Nat × Addr) :=
  match pin with
  | none => none
  | some p => match vs[p]? with
    | some (.ref a) => some (p, a)
    | _ => none
def keyD : Key → PyData
  | .inl i => .int i
  | .inr s => .str s
/-- what stands in the argument that the def may change: a list's items; a dict's keys and values -/
def Own1 (B : Bs) (K : Fr) (F H : Hp) (ys : List PyData) : Prop :=
  match B.pin with
  | none => ys = []
  | some (_, a) => F a = none ∧ (((∃ ws, H a = some (.lst ws) ∧ RpA K F ws ys) ∧ ∃ vs, B.H0 a = some (.lst vs)) ∨ ((∃ (ks : List Key) (ws : List V) (xs : List PyData), H a = some (.dK (ks.zip ws)) ∧ ks.length = xs.length ∧ RpA K F ws xs ∧ ys = [.list (ks.map keyD), .list xs]) ∧ ∃ kvs, B.H0 a = some (.dK kvs)))
def RetOk (B : Bs) (K : Fr) (F H : Hp) (v : V) : R → Prop
  | .d x => Rp K F v x
  | .new xs => ∃ a vs, v = .ref a ∧ F a = none ∧ H a = some (.lst vs) ∧ RpA K F vs xs ∧ B.H0 a = none
  | .scr ns => ∃ a, v = .ref a ∧ SqL K F a (ns.map V.int)
  | .raw w => v = w
  | .deep t => Ot K F H v t ∧ t.fp.Nodup ∧ ∀ a, a ∈ t.fp → B.H0 a = none
  | .newD ks xs => ∃ a vs, v = .ref a ∧ F a = none ∧ H a = some (.dK (ks.zip vs)) ∧ ks.length = xs.length ∧ RpA K F vs xs ∧ B.H0 a = none
structure Args (K : Fr) (pin : Option Nat) (F H0 H : Hp) (vs : List V) (ls : List L) : Prop where
  ok : EnvOk ⟨F, H0, pinAt pin vs⟩ K F H (vs.map some) (ls.map some)
  pn : (pinAt pin vs).map Prod.fst = pin
def SpG (K : Fr) (pin : Option Nat) (G : GF) : Sp := fun vs H Q E => ∃ F H0 ls Po Pe, Args K pin F H0 H vs ls ∧ G ls Po Pe ∧
  (∀ v r F' H' ys, St1 ⟨F, H0, pinAt pin vs⟩ F' H' → RetOk ⟨F, H0, pinAt pin vs⟩ K F' H' v r → Own1 ⟨F, H0, pinAt pin vs⟩ K F' H' ys → Po r ys → Q v H') ∧
  ∀ C F' H' ys, St1 ⟨F, H0, pinAt pin vs⟩ F' H' → Own1 ⟨F, H0, pinAt pin vs⟩ K F' H' ys → Pe C → E (.ref C) none H'
def ownAt (pin : Option Nat) (ρ : En) : List PyData :=
  match pin with
  | none => []
  | some p => match ρ[p]? with
    | some (some (.own ys)) => ys
    | some (some (.ownD ks xs)) => [.list (ks.map keyD), .list xs]
    | _ => []
def Zf (pin : Option Nat) (Po : R → List PyData → Prop) : Zs := { nx := fun ρ => Po (.d .none) (ownAt pin ρ), rt := fun r ρ => Po r (ownAt pin ρ) }
def EK (B : Bs) (K : Fr) (E : XK) (C : Addr) : Prop := ∀ F H σ ρ, EnvOk B K F H σ ρ → E (.ref C) none H
section
variable {B : Bs} {K : Fr} {F H F' H' : Hp} {σ : L2.St} {ρ : En} {v : V} {r : R}
theorem EnvOk.own1 (E : EnvOk B K F H σ ρ) {pin : Option Nat} (hp : B.pin.map Prod.fst = pin) : Own1 B K F H (ownAt pin ρ) := by
  unfold Own1
  cases e : B.pin with
  | none => rw [e] at hp; cases hp; rfl
  | some q =>
    obtain ⟨p, a⟩ := q
    rw [e] at hp
    cases hp
    obtain ⟨h1, h3⟩ := E.pin p a e
    have key : ∀ l, ρ[p]? = some (some l) → ownAt (some p) ρ = match l with | .own ys => ys | .ownD ks xs => [.list (ks.map keyD), .list xs] | _ => [] := fun l hl => by
      unfold ownAt
      simp only [hl]
      cases l <;> rfl
    show F a = none ∧ _
    rcases h3 with ⟨⟨xs, h2⟩, hk⟩ | ⟨⟨ks, xs, h2⟩, hk⟩
    · obtain ⟨a', vs, e2, k1, k2, k3⟩ := E.own_at h2
      rw [h1] at e2
      cases e2
      exact ⟨k1, .inl ⟨⟨vs, k2, by rw [show ownAt (Option.map Prod.fst (some (p, a))) ρ = xs from key _ h2]; exact k3⟩, hk⟩⟩
    · obtain ⟨a', vs, e2, k1, k2, hl, k3⟩ := E.ownD_at h2
      rw [h1] at e2
      cases e2
      exact ⟨k1, .inr ⟨⟨ks, vs, xs, k2, hl, k3, key _ h2⟩, hk⟩⟩
theorem ROk.ret (h : ROk B K F H σ ρ v r) : RetOk B K F H v r := by
  cases r with
  | d x => exact h
  | new xs => obtain ⟨a, vs, e, k1, k2, k3, k4, _⟩ := h; exact ⟨a, vs, e, k1, k2, k3, k4⟩
  | scr ns => exact h
  | raw w => exact h
  | deep t => exact ⟨h.1, h.2.1, fun a ha => (h.2.2 a ha).1⟩
  | newD ks xs => obtain ⟨a, vs, e, k1, k2, hl, k3, k4, _⟩ := h; exact ⟨a, vs, e, k1, k2, hl, k3, k4⟩
theorem EnvOk.pad (E : EnvOk B K F H σ ρ) (k : Nat) : EnvOk B K F H (σ ++ List.replicate k none) (ρ ++ List.replicate k none) := by
  have at_ : ∀ (i : Nat) (l : L), (ρ ++ List.replicate k none)[i]? = some (some l) → ρ[i]? = some (some l) ∧ (σ ++ List.replicate k none)[i]? = σ[i]? := fun i l e => by
    by_cases h : i < ρ.length
    · rw [List.getElem?_append_left h] at e
      exact ⟨e, List.getElem?_append_left (by rw [E.len]; exact h)⟩
    · rw [List.getElem?_append_right (by omega), List.getElem?_replicate] at e
      split at e
      · cases e
      · cases e
  have fpo : ∀ i a, SFp (σ ++ List.replicate k none) (ρ ++ List.replicate k none) i a → SFp σ ρ i a := fun i a ⟨l, v, e1, e2, e3⟩ => by
    obtain ⟨q, s⟩ := at_ i l e1
    exact ⟨l, v, q, s ▸ e2, e3⟩
  refine ⟨E.st, by rw [List.length_append, List.length_append, E.len, List.length_replicate, List.length_replicate], fun i l e => ?_, fun i j a e1 e2 => E.sep i j a (fpo _ _ e1) (fpo _ _ e2), fun i a e1 => E.mine i a (fpo _ _ e1), fun i a e => ?_⟩
  · obtain ⟨q, s⟩ := at_ i l e
    rw [s]
    exact E.sl i l q
  · obtain ⟨q1, q2⟩ := E.pin i a e
    have hi : i < ρ.length := by
      rcases q2 with ⟨⟨xs, q2⟩, _⟩ | ⟨⟨ks, xs, q2⟩, _⟩ <;> exact (List.getElem?_eq_some_iff.mp q2).1
    rw [List.getElem?_append_left (by rw [E.len]; exact hi), List.getElem?_append_left hi]
    exact ⟨q1, q2⟩
/-- a def's body read over plain data -/
theorem rd_of {N : List Str} {t : TS} {pin : Option Nat} {G : GF} {vs : List V} {Q : VK} {E : XK} (h : SpG K pin G vs H Q E)
    (w : ∀ B ls Po Pe, B.pin.map Prod.fst = pin → G ls Po Pe → (∀ C, Pe C → EK B K E C) → WS B K t (ls.map some ++ List.replicate (N.length - ls.length) none) (Zf pin Po)) : t { nx := fun _ H' => Q .non H', rt := Q } (L2.start N vs) H := by
  obtain ⟨F, H0, ls, Po, Pe, ha, hG, hQ, hE⟩ := h
  have hl : vs.length = ls.length := by
    have := ha.ok.len
    rw [List.length_map, List.length_map] at this
    exact this
  have E0 := ha.ok.pad (N.length - ls.length)
  have ww := w ⟨F, H0, pinAt pin vs⟩ ls Po Pe ha.pn hG fun C hC F' H' σ' ρ' E' => hE C F' H' _ E'.st (E'.own1 ha.pn) hC
  unfold L2.start
  rw [hl]
  exact ww F H _ E0 _ ⟨fun F' H' σ' ρ' E' _ q => hQ .non (.d .none) F' H' _ E'.st Rp.non (E'.own1 ha.pn) q, fun F' H' σ' ρ' v r E' _ rv q => hQ v r F' H' _ E'.st rv.ret (E'.own1 ha.pn) q, fun _ _ _ _ _ _ q => q.elim, fun _ _ _ _ _ _ q => q.elim⟩
theorem SpG.len {pin : Option Nat} {G : GF} {n : Nat} (hG : ∀ ls Po Pe, G ls Po Pe → ls.length = n) : ∀ vs H Q E, SpG K pin G vs H Q E → vs.length = n := fun vs H Q E h => by
  obtain ⟨F, H0, ls, Po, Pe, ha, hg, _⟩ := h
  have := ha.ok.len
  rw [List.length_map, List.length_map] at this
  rw [this]
  exact hG ls Po Pe hg
end
/-! ### calls -/
def argL : List Ar → Option (List L)
  | [] => some []
  | .d x :: r => (argL r).map (.d x :: ·)
  | .scr ns :: r => (argL r).map (.scr ns :: ·)
  | .raw v :: r => (argL r).map (.raw v :: ·)
  | .own _ :: _ => none
section
variable {B : Bs} {K : Fr} {F F1 H H1 F' H' : Hp} {σ : L2.St} {ρ ρ1 : En} {ta : TA} {Q : R → En → Prop}
theorem args_sl : ∀ {as : List Ar} {vs : List V} {ls : List L}, AOks K F σ vs as → argL as = some ls → vs.length = ls.length ∧ ∀ (i : Nat) (l : L), ls[i]? = some l → (∃ v, vs[i]? = some v ∧ SlotOk K F H v l) ∧ l.pl = true
  | [], _, _, .nil, e => by
    cases e
    exact ⟨rfl, fun i l h => by simp at h⟩
  | a :: as, _, ls, .cons (v := v) (vs := vs) ha hs, e => by
    have key : ∃ l ls', ls = l :: ls' ∧ argL as = some ls' ∧ SlotOk K F H v l ∧ l.pl = true := by
      cases a with
      | d x =>
        cases q : argL as with
        | none => unfold argL at e; rw [q] at e; cases e
        | some ls' => unfold argL at e; rw [q] at e; cases e; exact ⟨_, ls', rfl, rfl, ha, rfl⟩
      | scr x =>
        cases q : argL as with
        | none => unfold argL at e; rw [q] at e; cases e
        | some ls' => unfold argL at e; rw [q] at e; cases e; exact ⟨_, ls', rfl, rfl, ha, rfl⟩
      | raw x =>
        cases q : argL as with
        | none => unfold argL at e; rw [q] at e; cases e
        | some ls' => unfold argL at e; rw [q] at e; cases e; exact ⟨_, ls', rfl, rfl, ha, rfl⟩
      | own j => cases e
    obtain ⟨l, ls', rfl, e', sl, no⟩ := key
    obtain ⟨h1, h2⟩ := args_sl hs e'
    refine ⟨congrArg (· + 1) h1, fun i l2 h => ?_⟩
    cases i with
    | zero =>
      have z := Option.some.inj h
      subst z
      exact ⟨⟨v, rfl, sl⟩, no⟩
    | succ i => exact h2 i l2 h
theorem map_some_at {ls : List L} {i : Nat} {l : L} (e : (ls.map some)[i]? = some (some l)) : ls[i]? = some l := by
  rw [List.getElem?_map] at e
  cases q : ls[i]? with
  | none => rw [q] at e; cases e
  | some l' => rw [q] at e; exact congrArg some (Option.some.inj (Option.some.inj e))
/-- arguments of which the callee may hold none -/
theorem args_pl {vs : List V} {ls : List L} (fh : Ex F H) (hl : vs.length = ls.length) (hs : ∀ (i : Nat) (l : L), ls[i]? = some l → (∃ v, vs[i]? = some v ∧ SlotOk K F H v l) ∧ l.pl = true) : Args K none F H H vs ls := by
  have no : ∀ i a, ¬ SFp (vs.map some) (ls.map some) i a := fun i a ⟨l, _, e, _, h⟩ => LFp.no (hs i l (map_some_at e)).2 h
  refine ⟨⟨⟨Ex.refl F, fh, fun a o e _ => e, fun a h => h, fun a h _ => h⟩, by rw [List.length_map, List.length_map, hl], fun i l e => ?_, fun i j a e1 _ => absurd e1 (no _ _), fun i a e1 => absurd e1 (no _ _), fun i a e => nomatch e⟩, rfl⟩
  obtain ⟨⟨v, hv, sv⟩, _⟩ := hs i _ (map_some_at e)
  exact ⟨v, by rw [List.getElem?_map, hv]; rfl, sv⟩
/-- an answer, where the caller stands -/
theorem ret_ok {H0 : Hp} (E : EnvOk B K F' H' σ ρ) (hf : ∀ a, H0 a = none → B.H0 a = none ∧ ∀ i, ¬ SFp σ ρ i a) {pin : Option (Nat × Addr)} {v : V} {r : R} (rv : RetOk ⟨F, H0, pin⟩ K F' H' v r) : ROk B K F' H' σ ρ v r := by
  cases r with
  | d x => exact rv
  | new xs =>
    obtain ⟨a, ws, e, k1, k2, k3, k4⟩ := rv
    exact ⟨a, ws, e, k1, k2, k3, (hf a k4).1, (hf a k4).2⟩
  | scr ns => exact rv
  | raw w => exact rv
  | deep t => exact ⟨rv.1, rv.2.1, fun a ha => hf a (rv.2.2 a ha)⟩
  | newD ks xs =>
    obtain ⟨a, ws, e, k1, k2, hl, k3, k4⟩ := rv
    exact ⟨a, ws, e, k1, k2, hl, k3, (hf a k4).1, (hf a k4).2⟩
theorem EnvOk.fr2 (E : EnvOk B K F H σ ρ) (a : Addr) (h : H a = none) : B.H0 a = none ∧ ∀ i, ¬ SFp σ ρ i a := ⟨E.h0p h, fun i => E.fr h i⟩
theorem we_call {G : GF} {E : XK} (h : WA B K ta ρ fun as ρ1 => ∃ ls Pe, argL as = some ls ∧ G ls (fun r _ => Q r ρ1) Pe ∧ ∀ C, Pe C → EK B K E C) : WE B K (tCall (SpG K none G) [] E ta) ρ Q := fun F H σ E0 QQ k =>
  h F H σ E0 _ fun vs as F1 H1 ρ1 E1 e1 av ⟨ls, Pe, ha, hG, hE⟩ => by
    show SpG K none G (vs ++ []) H1 QQ E
    rw [List.append_nil]
    obtain ⟨hl, hs⟩ := args_sl (H := H1) av ha
    exact ⟨F1, H1, ls, fun r _ => Q r ρ1, Pe, args_pl E1.fh hl hs, hG, fun v r F' H' ys st rv _ q =>
      have E2 := E1.step st.stp
      k v r F' H' ρ1 E2 (e1.trans st.stp.ef) (ret_ok E2 E1.fr2 rv) q, fun C F' H' ys st _ hC => hE C hC F' H' σ ρ1 (E1.step st.stp)⟩
/-- the heap goes on, but the own list or dict of slot j is another one -/
theorem EnvOk.stepW (E : EnvOk B K F H σ ρ) {j p : Nat} {a : Addr} {l l' : L} (hj : ρ[j]? = some (some l)) (ha : σ[j]? = some (some (.ref a))) (hl : ∀ b, LFp (.ref a) l b ↔ b = a) (st : St1 ⟨F, H, some (p, a)⟩ F' H') (s : SlotOk K F' H' (.ref a) l') (hl' : ∀ b, LFp (.ref a) l' b → b = a)
    (hp : (∃ xs ys, l = .own ys ∧ l' = .own xs) ∨ (∃ ks xs js ys, l = .ownD js ys ∧ l' = .ownD ks xs)) :
    EnvOk B K F' H' σ (ρ.set j (some l')) := by
  have fa : SFp σ ρ j a := ⟨l, _, hj, ha, (hl a).mpr rfl⟩
  have k1 := (E.live fa).1
  have ne : ∀ b o, b ≠ a → H b = some o → H' b = some o := fun b o n e => st.h0 b o e fun i z => n (Prod.mk.inj (Option.some.inj z)).2.symm
  have keep : ∀ i b, SFp σ ρ i b → i ≠ j → F' b = none ∧ H' b = H b := fun i b hb n => by
    obtain ⟨m1, o, m2⟩ := E.live hb
    have hb' : b ≠ a := fun z => by subst z; exact n (E.sep i j b hb fa)
    exact ⟨st.nf b m1 (by rw [show (⟨F, H, some (p, a)⟩ : Bs).H0 b = H b from rfl, m2]; exact fun z => nomatch z), (ne b _ hb' m2).trans m2.symm⟩
  have st2 : St1 B F' H' := by
    refine ⟨E.st.f0.trans st.f0, st.fh, fun b u e n => ?_, fun b hb => ?_, fun b h1 h2 => st.nf b (E.st.nf b h1 h2) (E.st.th b h2)⟩
    · have hb : b ≠ a := fun z => by
        subst z
        rcases E.mine j b fa with z | z
        · rw [z] at e; cases e
        · exact n j z
      exact ne b u hb (E.st.h0 b u e n)
    · exact st.th b (E.st.th b hb)
  have hi : j < ρ.length := (List.getElem?_eq_some_iff.mp hj).1
  have fpo : ∀ i b, SFp σ (ρ.set j (some l')) i b → SFp σ ρ i b := fun i b ⟨m, w, e1, e2, e3⟩ => by
    rcases set_cases e1 with ⟨rfl, _, e⟩ | ⟨n, e⟩
    · cases e
      rw [ha] at e2
      cases e2
      rw [hl' b e3]
      exact fa
    · exact ⟨m, w, e, e2, e3⟩
  refine ⟨st2, by rw [List.length_set]; exact E.len, fun i m e => ?_, fun i m b e1 e2 => E.sep i m b (fpo _ _ e1) (fpo _ _ e2), fun i b e => E.mine i b (fpo _ _ e), fun i b e => ?_⟩
  · rcases set_cases e with ⟨rfl, _, e'⟩ | ⟨n, e'⟩
    · cases e'; exact ⟨_, ha, s⟩
    · obtain ⟨w, e1, s'⟩ := E.sl i m e'
      exact ⟨w, e1, s'.mono st.f0 fun b hb => keep i b ⟨m, w, e', e1, hb⟩ n⟩
  · obtain ⟨q1, q2⟩ := E.pin i b e
    refine ⟨q1, ?_⟩
    by_cases h : i = j
    · subst h
      rw [List.getElem?_set_self hi]
      rw [hj] at q2
      rcases hp with ⟨xs, ys, rfl, rfl⟩ | ⟨ks, ts, js, ys, rfl, rfl⟩
      · rcases q2 with ⟨_, q2⟩ | ⟨⟨_, _, q2⟩, _⟩
        · exact .inl ⟨⟨xs, rfl⟩, q2⟩
        · cases q2
      · rcases q2 with ⟨⟨_, q2⟩, _⟩ | ⟨_, q2⟩
        · cases q2
        · exact .inr ⟨⟨ks, ts, rfl⟩, q2⟩
    · rw [List.getElem?_set_ne (Ne.symm h)]; exact q2
theorem AOks.split : ∀ {as bs : List Ar} {vs : List V}, AOks K F σ vs (as ++ bs) → ∃ us ws, vs = us ++ ws ∧ us.length = as.length ∧ AOks K F σ us as ∧ AOks K F σ ws bs
  | [], _, vs, h => ⟨[], vs, rfl, rfl, .nil, h⟩
  | _ :: _, _, _, .cons h r => by
    obtain ⟨us, ws, rfl, hl, h1, h2⟩ := AOks.split r
    exact ⟨_ :: us, ws, rfl, congrArg (· + 1) hl, .cons h h1, h2⟩
/-- one own argument among plain ones -/
theorem args_own {H0 : Hp} {pin : Option (Nat × Addr)} {us ws : List V} {l1 l2 : List L} {v : V} {l : L} {p : Nat} (hlen : l1.length = p) (fh : Ex F H) (h0 : ∀ b o, H0 b = some o → H b = some o)
    (n1 : us.length = l1.length) (s1 : ∀ (i : Nat) (l : L), l1[i]? = some l → (∃ v, us[i]? = some v ∧ SlotOk K F H v l) ∧ l.pl = true)
    (n2 : ws.length = l2.length) (s2 : ∀ (i : Nat) (l : L), l2[i]? = some l → (∃ v, ws[i]? = some v ∧ SlotOk K F H v l) ∧ l.pl = true)
    (sv : SlotOk K F H v l) (hm : ∀ b, LFp v l b → H0 b = none ∨ pin = some (p, b))
    (hpin : ∀ i a, pin = some (i, a) → i = p ∧ v = .ref a ∧ (((∃ xs, l = .own xs) ∧ ∃ vs, H0 a = some (.lst vs)) ∨ ((∃ ks xs, l = .ownD ks xs) ∧ ∃ kvs, H0 a = some (.dK kvs)))) :
    EnvOk ⟨F, H0, pin⟩ K F H ((us ++ v :: ws).map some) ((l1 ++ l :: l2).map some) := by
  have at_ : ∀ (i : Nat) (m : L), (l1 ++ l :: l2)[i]? = some m → (∃ w, (us ++ v :: ws)[i]? = some w ∧ SlotOk K F H w m) ∧ ((i = p ∧ m = l) ∨ m.pl = true) := fun i m e => by
    by_cases h1 : i < l1.length
    · rw [List.getElem?_append_left h1] at e
      obtain ⟨⟨w, hv, sw⟩, no⟩ := s1 i m e
      exact ⟨⟨w, by rw [List.getElem?_append_left (by omega)]; exact hv, sw⟩, .inr no⟩
    · by_cases h2 : i = l1.length
      · subst h2
        rw [List.getElem?_append_right (Nat.le_refl _), Nat.sub_self] at e
        have e' := Option.some.inj e
        subst e'
        refine ⟨⟨v, ?_, sv⟩, .inl ⟨hlen, rfl⟩⟩
        rw [List.getElem?_append_right (by omega), show l1.length - us.length = 0 by omega]
        rfl
      · rw [List.getElem?_append_right (by omega), show i - l1.length = (i - l1.length - 1) + 1 by omega, List.getElem?_cons_succ] at e
        obtain ⟨⟨w, hv, sw⟩, no⟩ := s2 _ m e
        refine ⟨⟨w, ?_, sw⟩, .inr no⟩
        rw [List.getElem?_append_right (by omega), show i - us.length = (i - l1.length - 1) + 1 by omega, List.getElem?_cons_succ]
        exact hv
  have at_p : ((us ++ v :: ws).map some)[p]? = some (some v) := by
    rw [List.getElem?_map, List.getElem?_append_right (by omega), show p - us.length = 0 by omega]
    rfl
  have at_l : ((l1 ++ l :: l2).map some)[p]? = some (some l) := by
    rw [List.getElem?_map, List.getElem?_append_right (by omega), show p - l1.length = 0 by omega]
    rfl
  have fpo : ∀ i b, SFp ((us ++ v :: ws).map some) ((l1 ++ l :: l2).map some) i b → i = p ∧ LFp v l b := fun i b ⟨m, w, e1, e2, e3⟩ => by
    rcases (at_ i m (map_some_at e1)).2 with ⟨rfl, rfl⟩ | no
    · rw [at_p] at e2
      cases e2
      exact ⟨rfl, e3⟩
    · exact absurd e3 (LFp.no no)
  refine ⟨⟨Ex.refl F, fh, fun a o e _ => h0 a o e, fun a h => ?_, fun a h _ => h⟩, ?_, fun i m e => ?_, fun i m b e1 e2 => (fpo _ _ e1).1.trans (fpo _ _ e2).1.symm, fun i b e => ?_, fun i b e => ?_⟩
  · cases q : H0 a with
    | none => exact absurd q h
    | some o => rw [h0 a o q]; exact fun z => nomatch z
  · rw [List.length_map, List.length_map, List.length_append, List.length_append, List.length_cons, List.length_cons, n1, n2]
  · obtain ⟨⟨w, hv, sw⟩, _⟩ := at_ i m (map_some_at e)
    exact ⟨w, by rw [List.getElem?_map, hv]; rfl, sw⟩
  · obtain ⟨rfl, q⟩ := fpo i b e
    exact hm b q
  · obtain ⟨rfl, rfl, q⟩ := hpin i b e
    refine ⟨at_p, ?_⟩
    rw [at_l]
    rcases q with ⟨⟨xs, rfl⟩, q⟩ | ⟨⟨ks, xs, rfl⟩, q⟩
    · exact .inl ⟨⟨xs, rfl⟩, q⟩
    · exact .inr ⟨⟨ks, xs, rfl⟩, q⟩
theorem pinAt_own {us ws : List V} {a : Addr} {p : Nat} (hu : us.length = p) : pinAt (some p) (us ++ .ref a :: ws) = some (p, a) := by
  have e : (us ++ V.ref a :: ws)[p]? = some (.ref a) := by
    rw [List.getElem?_append_right (by omega), show p - us.length = 0 by omega]
    rfl
  show (match (us ++ V.ref a :: ws)[p]? with | some (.ref a) => some (p, a) | _ => none) = some (p, a)
  rw [e]
theorem we_callP {G : GF} {E : XK} {p : Nat} (h : WA B K ta ρ fun as ρ1 => ∃ pre post j xs l1 l2 Pe, as = pre ++ .own j :: post ∧ pre.length = p ∧ ρ1[j]? = some (some (.own xs)) ∧ argL pre = some l1 ∧ argL post = some l2 ∧ G (l1 ++ .own xs :: l2) (fun r ys => Q r (ρ1.set j (some (.own ys)))) Pe ∧ ∀ C, Pe C → EK B K E C) :
    WE B K (tCall (SpG K (some p) G) [] E ta) ρ Q := fun F H σ E0 QQ k =>
  h F H σ E0 _ fun vs as F1 H1 ρ1 E1 e1 av ⟨pre, post, j, xs, l1, l2, Pe, ea, hp, hj, hl1, hl2, hG, hE⟩ => by
    show SpG K (some p) G (vs ++ []) H1 QQ E
    rw [List.append_nil]
    subst ea
    obtain ⟨us, ws, rfl, hu, au, aw⟩ := av.split
    cases aw with
    | @cons v ws a as hv aw =>
    obtain ⟨a, cs, ha, f1, f2, f3⟩ := E1.own_at hj
    rw [show σ[j]? = some (some v) from hv] at ha
    cases ha
    obtain ⟨n1, s1⟩ := args_sl (H := H1) au hl1
    obtain ⟨n2, s2⟩ := args_sl (H := H1) aw hl2
    have pa : pinAt (some p) (us ++ .ref a :: ws) = some (p, a) := pinAt_own (hu.trans hp)
    have A := args_own (H0 := H1) (pin := some (p, a)) (v := .ref a) (l := .own xs) (n1.symm.trans (hu.trans hp)) E1.fh (fun b o e => e) n1 s1 n2 s2 ⟨a, cs, rfl, f1, f2, f3⟩ (fun b hb => .inr (by cases (show V.ref a = V.ref b from hb); rfl))
      (fun i b e => by cases e; exact ⟨rfl, rfl, .inl ⟨⟨xs, rfl⟩, cs, f2⟩⟩)
    have back : ∀ F' H' ys, St1 ⟨F1, H1, some (p, a)⟩ F' H' → Own1 ⟨F1, H1, some (p, a)⟩ K F' H' ys → EnvOk B K F' H' σ (ρ1.set j (some (.own ys))) := fun F' H' ys st ow => by
      obtain ⟨fa, ow⟩ := (show F' a = none ∧ _ from ow)
      rcases ow with ⟨⟨vs', hw, rw'⟩, _⟩ | ⟨_, kvs, hk⟩
      · exact E1.stepW hj hv (fun b => ⟨fun z => by cases (show V.ref a = V.ref b from z); rfl, fun z => by subst z; rfl⟩) st ⟨a, vs', rfl, fa, hw, rw'⟩ (fun b z => by cases (show V.ref a = V.ref b from z); rfl) (.inl ⟨_, _, rfl, rfl⟩)
      · rw [show (⟨F1, H1, some (p, a)⟩ : Bs).H0 a = H1 a from rfl, f2] at hk
        cases hk
    have fr3 : ∀ ys b, H1 b = none → B.H0 b = none ∧ ∀ i, ¬ SFp σ (ρ1.set j (some (.own ys))) i b := fun ys b hb => ⟨E1.h0p hb, fun i ⟨m, w, q1, q2, q3⟩ => by
      rcases set_cases q1 with ⟨rfl, _, e⟩ | ⟨n, e⟩
      · cases e
        rw [hv] at q2
        cases q2
        cases (show V.ref a = V.ref b from q3)
        rw [f2] at hb
        cases hb
      · exact E1.fr hb i ⟨m, w, e, q2, q3⟩⟩
    unfold SpG
    rw [pa]
    refine ⟨F1, H1, l1 ++ .own xs :: l2, fun r ys => Q r (ρ1.set j (some (.own ys))), Pe, ⟨by rw [pa]; exact A, by rw [pa]; rfl⟩, hG, fun v r F' H' ys st rv ow q => ?_, fun C F' H' ys st ow hC => hE C hC F' H' σ _ (back F' H' ys st ow)⟩
    exact k v r F' H' _ (back F' H' ys st ow) (e1.trans st.f0) (ret_ok (back F' H' ys st ow) (fr3 ys) rv) q
/-- a callee that changes the own dict of slot j -/
theorem we_callPD {G : GF} {E : XK} {p : Nat} (h : WA B K ta ρ fun as ρ1 => ∃ pre post j ks xs l1 l2 Pe, as = pre ++ .own j :: post ∧ pre.length = p ∧ ρ1[j]? = some (some (.ownD ks xs)) ∧ argL pre = some l1 ∧ argL post = some l2 ∧
      G (l1 ++ .ownD ks xs :: l2) (fun r ys => ∀ js zs, ys = [.list (js.map keyD), .list zs] → Q r (ρ1.set j (some (.ownD js zs)))) Pe ∧ ∀ C, Pe C → EK B K E C) :
    WE B K (tCall (SpG K (some p) G) [] E ta) ρ Q := fun F H σ E0 QQ k =>
  h F H σ E0 _ fun vs as F1 H1 ρ1 E1 e1 av ⟨pre, post, j, ks, xs, l1, l2, Pe, ea, hp, hj, hl1, hl2, hG, hE⟩ => by
    show SpG K (some p) G (vs ++ []) H1 QQ E
    rw [List.append_nil]
    subst ea
    obtain ⟨us, ws, rfl, hu, au, aw⟩ := av.split
    cases aw with
    | @cons v ws a as hv aw =>
    obtain ⟨a, cs, ha, f1, f2, hkl, f3⟩ := E1.ownD_at hj
    rw [show σ[j]? = some (some v) from hv] at ha
    cases ha
    obtain ⟨n1, s1⟩ := args_sl (H := H1) au hl1
    obtain ⟨n2, s2⟩ := args_sl (H := H1) aw hl2
    have pa : pinAt (some p) (us ++ .ref a :: ws) = some (p, a) := pinAt_own (hu.trans hp)
    have A := args_own (H0 := H1) (pin := some (p, a)) (v := .ref a) (l := .ownD ks xs) (n1.symm.trans (hu.trans hp)) E1.fh (fun b o e => e) n1 s1 n2 s2 ⟨a, cs, rfl, f1, f2, hkl, f3⟩ (fun b hb => .inr (by cases (show V.ref a = V.ref b from hb); rfl))
      (fun i b e => by cases e; exact ⟨rfl, rfl, .inr ⟨⟨ks, xs, rfl⟩, _, f2⟩⟩)
    have back : ∀ F' H' ys, St1 ⟨F1, H1, some (p, a)⟩ F' H' → Own1 ⟨F1, H1, some (p, a)⟩ K F' H' ys → ∃ js zs, ys = [.list (js.map keyD), .list zs] ∧ EnvOk B K F' H' σ (ρ1.set j (some (.ownD js zs))) := fun F' H' ys st ow => by
      obtain ⟨fa, ow⟩ := (show F' a = none ∧ _ from ow)
      rcases ow with ⟨_, vs, hk⟩ | ⟨⟨js, vs', zs, hw, hl', rw', e⟩, _⟩
      · rw [show (⟨F1, H1, some (p, a)⟩ : Bs).H0 a = H1 a from rfl, f2] at hk
        cases hk
      · exact ⟨js, zs, e, E1.stepW hj hv (fun b => ⟨fun z => by cases (show V.ref a = V.ref b from z); rfl, fun z => by subst z; rfl⟩) st ⟨a, vs', rfl, fa, hw, hl', rw'⟩ (fun b z => by cases (show V.ref a = V.ref b from z); rfl) (.inr ⟨_, _, _, _, rfl, rfl⟩)⟩
    have fr3 : ∀ js zs b, H1 b = none → B.H0 b = none ∧ ∀ i, ¬ SFp σ (ρ1.set j (some (.ownD js zs))) i b := fun js zs b hb => ⟨E1.h0p hb, fun i ⟨m, w, q1, q2, q3⟩ => by
      rcases set_cases q1 with ⟨rfl, _, e⟩ | ⟨n, e⟩
      · cases e
        rw [hv] at q2
        cases q2
        cases (show V.ref a = V.ref b from q3)
        rw [f2] at hb
        cases hb
      · exact E1.fr hb i ⟨m, w, e, q2, q3⟩⟩
    unfold SpG
    rw [pa]
    refine ⟨F1, H1, l1 ++ .ownD ks xs :: l2, fun r ys => ∀ js zs, ys = [.list (js.map keyD), .list zs] → Q r (ρ1.set j (some (.ownD js zs))), Pe, ⟨by rw [pa]; exact A, by rw [pa]; rfl⟩, hG, fun v r F' H' ys st rv ow q => ?_, fun C F' H' ys st ow hC => ?_⟩
    · obtain ⟨js, zs, e, E2⟩ := back F' H' ys st ow
      exact k v r F' H' _ E2 (e1.trans st.f0) (ret_ok E2 (fr3 js zs) rv) (q js zs e)
    · obtain ⟨js, zs, e, E2⟩ := back F' H' ys st ow
      exact hE C hC F' H' σ _ E2
/-- the own things of slot j are given away -/
noncomputable def cutH (H : Hp) (A : Addr → Prop) : Hp := fun a => @ite _ (A a) (Classical.propDecidable _) none (H a)
theorem cutH_yes {H : Hp} {A : Addr → Prop} {a : Addr} (h : A a) : cutH H A a = none := by unfold cutH; exact if_pos h
theorem cutH_no {H : Hp} {A : Addr → Prop} {a : Addr} (h : ¬ A a) : cutH H A a = H a := by unfold cutH; exact if_neg h
theorem EnvOk.lose (E : EnvOk B K F H σ ρ) {j : Nat} (np : ∀ a, B.pin ≠ some (j, a)) : EnvOk B K F (cutH H (SFp σ ρ j)) σ (ρ.set j none) := by
  have fpo : ∀ i a, SFp σ (ρ.set j none) i a → i ≠ j ∧ SFp σ ρ i a := fun i a ⟨m, u, e1, e2, e3⟩ => by
    obtain ⟨n, q⟩ := set_none e1
    exact ⟨n, m, u, q, e2, e3⟩
  have mine : ∀ a, SFp σ ρ j a → B.H0 a = none := fun a h => (E.mine j a h).elim id fun z => absurd z (np a)
  refine ⟨⟨E.st.f0, fun a o e => ?_, fun a o e n => ?_, fun a h => ?_, E.st.nf⟩, by rw [List.length_set]; exact E.len, fun i l e => ?_, fun i k a e1 e2 => E.sep i k a (fpo _ _ e1).2 (fpo _ _ e2).2, fun i a e => E.mine i a (fpo _ _ e).2, fun i a e => ?_⟩
  · rw [cutH_no fun z => by rw [(E.live z).1] at e; cases e]; exact E.fh a o e
  · rw [cutH_no fun z => by rw [mine a z] at e; cases e]; exact E.st.h0 a o e n
  · rw [cutH_no fun z => h (mine a z)]; exact E.st.th a h
  · obtain ⟨n, q⟩ := set_none e
    obtain ⟨v, e1, s⟩ := E.sl i l q
    refine ⟨v, e1, s.mono (Ex.refl F) fun a ha => ?_⟩
    have h := (⟨l, v, q, e1, ha⟩ : SFp σ ρ i a)
    exact ⟨(E.live h).1, cutH_no fun z => n (E.sep i j a h z)⟩
  · have hj : i ≠ j := fun z => by subst z; exact np a e
    rw [List.getElem?_set_ne (Ne.symm hj)]
    exact E.pin i a e
/-- a callee takes over what slot j owns -/
theorem we_callC {G : GF} {E : XK} (h : WA B K ta ρ fun as ρ1 => ∃ pre post j l l1 l2 Pe, as = pre ++ .own j :: post ∧ ρ1[j]? = some (some l) ∧ (∀ a, B.pin ≠ some (j, a)) ∧ argL pre = some l1 ∧ argL post = some l2 ∧ G (l1 ++ l :: l2) (fun r _ => Q r (ρ1.set j none)) Pe ∧ ∀ C, Pe C → EK B K E C) :
    WE B K (tCall (SpG K none G) [] E ta) ρ Q := fun F H σ E0 QQ k =>
  h F H σ E0 _ fun vs as F1 H1 ρ1 E1 e1 av ⟨pre, post, j, l, l1, l2, Pe, ea, hj, np, hl1, hl2, hG, hE⟩ => by
    show SpG K none G (vs ++ []) H1 QQ E
    rw [List.append_nil]
    subst ea
    obtain ⟨us, ws, rfl, hu, au, aw⟩ := av.split
    cases aw with
    | @cons v ws a as hv aw =>
    obtain ⟨v', ha, sv⟩ := E1.sl j l hj
    rw [show σ[j]? = some (some v) from hv] at ha
    cases ha
    obtain ⟨n1, s1⟩ := args_sl (H := H1) au hl1
    obtain ⟨n2, s2⟩ := args_sl (H := H1) aw hl2
    have E2 := E1.lose np
    have A := args_own (H0 := cutH H1 (SFp σ ρ1 j)) (pin := none) (v := v) (l := l) rfl E1.fh (fun b o e => by
        by_cases c : SFp σ ρ1 j b
        · rw [cutH_yes c] at e; cases e
        · rw [cutH_no c] at e; exact e) n1 s1 n2 s2 sv (fun b hb => .inl (cutH_yes ⟨l, v, hj, hv, hb⟩)) (fun i b e => nomatch e)
    refine ⟨F1, cutH H1 (SFp σ ρ1 j), l1 ++ l :: l2, fun r _ => Q r (ρ1.set j none), Pe, ⟨A, rfl⟩, hG, fun v r F' H' ys st rv _ q => ?_, fun C F' H' ys st _ hC => hE C hC F' H' σ _ (E2.step st.stp)⟩
    have E3 := E2.step st.stp
    exact k v r F' H' _ E3 (e1.trans st.f0) (ret_ok E3 E2.fr2 rv) q
/-! ### raise -/
def tRaiseE (E : XK) (C : Addr) : TS := fun _ _ H => E (.ref C) none H
theorem ws_raise {E : XK} {C : Addr} {Z : Zs} (h : EK B K E C) : WS B K (tRaiseE E C) ρ Z := fun F H σ E0 D ok => h F H σ ρ E0
end
theorem p_raise {X : Cx} {E : XK} {C : Addr} {e : Expr} {pos : Pos} (tk : Takes X (fun cls d _ H => E cls d H)) (mk : PMk X e (fun _ H Q => Q (.ref C) none H)) (hc : X.calm = true := by rfl) : PS X (.Raise (some e) none pos) (tRaiseE E C) := ps_raise hc tk mk
end SV

set_option maxHeartbeats 1000000
namespace SV
open PySem PySem.Spec L2
open Evl (Ex)

abbrev rJoin (K : Fr) : V → List V → Hp → VK → Prop := fun x xs H Q => ∃ a p, ∃ ys : List Str, x = .str a ∧ xs = [.ref p] ∧ (SqL K H p (ys.map V.str) ∨ SqT K H p (ys.map V.str)) ∧ (ys.map (·.length)).sum + ys.length * a.length ≤ 16777216 ∧ Q (.str (Txt.join a ys)) H
/-! ### rules that the terms name -/
section
variable {X : Cx}
theorem ps_setO {i : Nat} {x : Str} {e : Expr} {te : TE} {pos pos' : Pos} (hN : X.N.Nodup) (hi : X.N[i]? = some x) (hx : Loc X.env.scope x) (he : PE X e te) (hs : swapsWith e (some (.Name x pos')) pos.line X.env = pure false := by rfl)
    (hf : X.fn x = true ∨ X.env.scope.names.lookup x = some .local := by first | exact .inl rfl | exact .inr rfl | assumption) : PS X (.Assign [.Name x pos'] e pos) (tAsgO te i) := ps_set hN hi hx he hs hf
end
/-! the rules, by the fragment that is named -/
section
variable {X : Cx} (K : Fr) (h : X.K = K := by rfl)
include h
theorem k_plus : OpR X (binaryOp .Add) (rPlus K) := h ▸ op_plus
theorem k_eqD (hu : X.A.units + 64 < cLine) : OpR X (compareOp .Eq) (rEqD K) := h ▸ op_eqD hu
theorem k_neD (hu : X.A.units + 64 < cLine) : OpR X (compareOp .NotEq) (rNeD K) := h ▸ op_neD hu
theorem k_inSeq : OpR X (compareOp .In) (rIn K false) := h ▸ op_in_seq
theorem k_niSeq : OpR X (compareOp .NotIn) (rIn K true) := h ▸ op_notIn_seq
theorem k_ix : IxR X (rIx K) := h ▸ ix_seq
theorem k_sl : SlR X (rSlAny K) := h ▸ sl_any
theorem k_len : CallR X (.builtin "len") (rLen K) := h ▸ call_len
theorem k_isi : CallR X (.builtin "isinstance") (rIsi K) := h ▸ call_isi
theorem k_isiT : CallR X (.builtin "isinstance") (rIsiT K) := h ▸ call_isiT
theorem k_max (hc : X.calm = true) : CallR X (.builtin "max") (rMax K) := h ▸ cr_max hc
theorem k_min (hc : X.calm = true) : CallR X (.builtin "min") (rMin K) := h ▸ cr_min hc
theorem k_sum (hc : X.calm = true) : CallR X (.builtin "sum") (rSum K) := h ▸ cr_sum hc
theorem k_all (hc : X.calm = true) : CallR X (.builtin "all") (rAll K) := h ▸ cr_all hc
theorem k_any (hc : X.calm = true) : CallR X (.builtin "any") (rAny K) := h ▸ cr_any hc
theorem k_listOf : CallR X (.type "list") (rListOf K) := h ▸ call_list_of
theorem k_tupOf : CallR X (.type "tuple") (rTupOf K) := h ▸ call_tuple_of
theorem k_piL {tg l : Expr} {tl : TE} (hl : PE X l tl) : PI X tg l (iList K tl) := h ▸ pi_list hl
theorem k_piT {tg l : Expr} {tl : TE} (hl : PE X l tl) : PI X tg l (iTup K tl) := h ▸ pi_tup hl
theorem k_gTup {es : List Expr} {k : Nat} {pos : Pos} {t : TGs} {n : Nat} (hc : X.calm = true) (hg : PGs X es t) (hn : (assignEach es X.env).length = n := by rfl) (hst : (assignEach es X.env).findIdx? (·.1) = none := by rfl) : PG X (.Tuple es k pos) (gTup K n t) := h ▸ pg_tup hc hg hn hst
theorem k_bm0 {o : Expr} {to : TE} {name : Str} {apos cpos : Pos} {T id : String} {r : V → List V → Hp → VK → Prop} (pa : PlainAttrs T) (slot : Slot T name id) (hty : typeOf (.builtin id) = pure (.type "method_descriptor")) (hm : MtR X id r) (ho : PE X o to)
    (hbase : attributeBase o name X.env (eval o X.env) = eval o X.env := by rfl) (hline : (apos.endLine == cpos.line) = true := by rfl) : PE X (.Call (.Attribute o name apos) [] [] cpos) (tBM0 K T r to) := h ▸ pe_bm0 pa slot hty hm ho hbase hline
theorem k_bm {o e : Expr} {es : List Expr} {to : TE} {t : TA} {name : Str} {apos cpos : Pos} {T id : String} {r : V → List V → Hp → VK → Prop} (pa : PlainAttrs T) (slot : Slot T name id) (hty : typeOf (.builtin id) = pure (.type "method_descriptor")) (hm : MtR X id r) (ho : PE X o to) (ha : PA X (e :: es) t)
    (hbase : attributeBase o name X.env (eval o X.env) = eval o X.env := by rfl)
    (hfew : ((backTo cpos (starEach (e :: es) X.env)).all (fun x => !x.1) && (backToKw cpos (keywordEach [] X.env)).all (fun x => x.1.isSome) && decide ((e :: es).length + ([] : List Keyword).length + (if ([] : List Keyword).isEmpty then 0 else 1) < 30)) = true := by rfl)
    (hline : (apos.endLine == cpos.line) = true := by rfl) (hs : starEach (e :: es) X.env = (false, eval e X.env) :: starEach es X.env := by rfl) (hplain : (backTo cpos (starEach es X.env)).any (·.1) = false := by rfl) :
    PE X (.Call (.Attribute o name apos) (e :: es) [] cpos) (tBM K T r to t) := h ▸ pe_bm pa slot hty hm ho ha hbase hfew hline hs hplain
theorem k_join {o e : Expr} {to te : TE} {apos pos : Pos} (ho : PE X o to) (he : PE X e te) (hs : starEach [e] X.env = [(false, eval e X.env)] := by rfl) (hbase : attributeBase o "join" X.env (eval o X.env) = eval o X.env := by rfl) (hline : (apos.endLine == pos.line) = true := by rfl) :
    PE X (.Call (.Attribute o "join" apos) [e] [] pos) (tM1 (rJoin K) to te) := h ▸ pe_join ho he hs hbase hline
end
/-! ### forks -/
section
variable {p : Prop} [Decidable p] {A B : Prop} {b : Bool}
theorem fk_dec (h1 : p → A) (h2 : ¬ p → B) : (decide p = true → A) ∧ (decide p = false → B) := ⟨fun h => h1 (of_decide_eq_true h), fun h => h2 (of_decide_eq_false h)⟩
theorem fk_not (h : (b = true → B) ∧ (b = false → A)) : ((!b) = true → A) ∧ ((!b) = false → B) := ⟨fun e => h.2 (by cases b <;> simp_all), fun e => h.1 (by cases b <;> simp_all)⟩
theorem fk_int {i j : Int} (h1 : i = j → A) (h2 : i ≠ j → B) : (PyData.eqv (.int i) (.int j) = true → A) ∧ (PyData.eqv (.int i) (.int j) = false → B) := by
  unfold PyData.eqv
  exact ⟨fun h => h1 (beq_iff_eq.mp h), fun h => h2 fun e => by rw [e, beq_self_eq_true] at h; cases h⟩
theorem fk_str {i j : Str} (h1 : i = j → A) (h2 : i ≠ j → B) : (PyData.eqv (.str i) (.str j) = true → A) ∧ (PyData.eqv (.str i) (.str j) = false → B) := by
  unfold PyData.eqv
  exact ⟨fun h => h1 (beq_iff_eq.mp h), fun h => h2 fun e => by rw [e, beq_self_eq_true] at h; cases h⟩
theorem fk_nil {xs : List PyData} (h1 : xs = [] → A) (h2 : xs ≠ [] → B) : (PyData.eqv (.list xs) (.list []) = true → A) ∧ (PyData.eqv (.list xs) (.list []) = false → B) := by
  cases xs with
  | nil => exact ⟨fun _ => h1 rfl, fun h => by simp [PyData.eqv, PyData.eqvAll] at h⟩
  | cons x xs => exact ⟨fun h => by simp [PyData.eqv, PyData.eqvAll] at h, fun _ => h2 fun z => nomatch z⟩
theorem fk_t (h : A) : (true = true → A) ∧ (true = false → B) := ⟨fun _ => h, (fun z => nomatch z)⟩
theorem fk_f (h : B) : (false = true → A) ∧ (false = false → B) := ⟨(fun z => nomatch z), fun _ => h⟩
end
/-! ### data that == may be asked of -/
inductive OkD : Nat → PyData → Prop
  | int {n : Nat} (i : Int) : OkD n (.int i)
  | bool {n : Nat} (b : Bool) : OkD n (.bool b)
  | none {n : Nat} : OkD n .none
  | str {n : Nat} {s : Str} : PyData.strOk s = true → OkD n (.str s)
  | list {n : Nat} {xs : List PyData} : (∀ x, x ∈ xs → OkD n x) → OkD (n + 1) (.list xs)
  | tuple {n : Nat} {xs : List PyData} : (∀ x, x ∈ xs → OkD n x) → OkD (n + 1) (.tuple xs)
theorem noDs_of {xs : List PyData} (h : ∀ x, x ∈ xs → noD x = true) : noDs xs = true := by
  induction xs with
  | nil => rfl
  | cons x xs ih =>
    unfold noDs
    rw [h x List.mem_cons_self, ih fun y hy => h y (List.mem_cons_of_mem _ hy)]
    rfl
theorem lays_of {xs : List PyData} (h : ∀ x, x ∈ xs → x.canLay0 = true) : PyData.canLayAll0 xs = true := by
  induction xs with
  | nil => rfl
  | cons x xs ih =>
    unfold PyData.canLayAll0
    rw [h x List.mem_cons_self, ih fun y hy => h y (List.mem_cons_of_mem _ hy)]
    rfl
theorem depths_of {n : Nat} {xs : List PyData} (h : ∀ x, x ∈ xs → x.depth ≤ n) : PyData.depthAll xs ≤ n := by
  induction xs with
  | nil => exact Nat.zero_le _
  | cons x xs ih =>
    unfold PyData.depthAll
    exact Nat.max_le.mpr ⟨h x List.mem_cons_self, ih fun y hy => h y (List.mem_cons_of_mem _ hy)⟩
theorem OkD.all {n : Nat} {x : PyData} (h : OkD n x) : noD x = true ∧ x.canLay0 = true ∧ x.depth ≤ n := by
  induction h with
  | int i => exact ⟨rfl, by unfold PyData.canLay0; rfl, by unfold PyData.depth; exact Nat.zero_le _⟩
  | bool i => exact ⟨rfl, by unfold PyData.canLay0; rfl, by unfold PyData.depth; exact Nat.zero_le _⟩
  | none => exact ⟨rfl, by unfold PyData.canLay0; rfl, by unfold PyData.depth; exact Nat.zero_le _⟩
  | str s => exact ⟨rfl, by unfold PyData.canLay0; exact s, by unfold PyData.depth; exact Nat.zero_le _⟩
  | list _ ih => exact ⟨noDs_of fun x hx => (ih x hx).1, by unfold PyData.canLay0; exact lays_of fun x hx => (ih x hx).2.1, by unfold PyData.depth; exact Nat.succ_le_succ (depths_of fun x hx => (ih x hx).2.2)⟩
  | tuple _ ih => exact ⟨noDs_of fun x hx => (ih x hx).1, by unfold PyData.canLay0; exact lays_of fun x hx => (ih x hx).2.1, by unfold PyData.depth; exact Nat.succ_le_succ (depths_of fun x hx => (ih x hx).2.2)⟩
theorem OkD.sh {n : Nat} {x : PyData} (h : OkD n x) (hn : n ≤ 64) : SeqAt.shaped x = true := by
  unfold SeqAt.shaped
  rw [h.all.2.1, decide_eq_true (Nat.le_trans h.all.2.2 hn)]
  rfl
theorem ok2 {x y : PyData} (hx : OkD 60 x) (hy : OkD 60 y) : noD x = true ∧ noD y = true ∧ SeqAt.shaped x = true ∧ SeqAt.shaped y = true := ⟨hx.all.1, hy.all.1, hx.sh (by decide), hy.sh (by decide)⟩
theorem ok2O {xs : List PyData} {y : PyData} (hx : OkD 60 (.list xs)) (hy : OkD 60 y) : noDs xs = true ∧ noD y = true ∧ SeqAt.shaped (.list xs) = true ∧ SeqAt.shaped y = true := ⟨by have := hx.all.1; unfold noD at this; exact this, hy.all.1, hx.sh (by decide), hy.sh (by decide)⟩
theorem OkD.nil {n : Nat} : OkD (n + 1) (.list []) := .list fun _ h => nomatch h
theorem OkD.ints {n : Nat} (ns : List Int) : OkD (n + 1) (.list (ns.map .int)) := .list fun x hx => by
  obtain ⟨i, _, rfl⟩ := List.mem_map.mp hx
  exact .int i
theorem OkD.strs {n : Nat} {ws : List Str} (h : ∀ w, w ∈ ws → PyData.strOk w = true) : OkD (n + 1) (.list (ws.map .str)) := .list fun x hx => by
  obtain ⟨i, hi, rfl⟩ := List.mem_map.mp hx
  exact .str (h i hi)
/-! ### == of data, where no truths stand among numbers -/
mutual
def noB : PyData → Bool
  | .bool _ => false
  | .dict _ => false
  | .list xs => noBs xs
  | .tuple xs => noBs xs
  | _ => true
def noBs : List PyData → Bool
  | [] => true
  | x :: xs => noB x && noBs xs
end
mutual
theorem eqv_iff : ∀ {x y : PyData}, noB x = true → noB y = true → (PyData.eqv x y = true ↔ x = y)
  | .none, y, _, h => by cases y <;> simp [PyData.eqv]
  | .bool _, _, h, _ => by simp [noB] at h
  | .dict _, _, h, _ => by simp [noB] at h
  | .int i, y, _, h => by cases y <;> simp [PyData.eqv, noB] at h ⊢
  | .str i, y, _, h => by cases y <;> simp [PyData.eqv] at h ⊢
  | .list xs, .list ys, h1, h2 => by
    unfold noB at h1 h2
    unfold PyData.eqv
    rw [eqvAll_iff h1 h2]
    exact ⟨fun e => by rw [e], fun e => by cases e; rfl⟩
  | .tuple xs, .tuple ys, h1, h2 => by
    unfold noB at h1 h2
    unfold PyData.eqv
    rw [eqvAll_iff h1 h2]
    exact ⟨fun e => by rw [e], fun e => by cases e; rfl⟩
  | .list xs, .none, _, _ => by simp [PyData.eqv]
  | .list xs, .bool _, _, h => by simp [noB] at h
  | .list xs, .dict _, _, h => by simp [noB] at h
  | .list xs, .int _, _, _ => by simp [PyData.eqv]
  | .list xs, .str _, _, _ => by simp [PyData.eqv]
  | .list xs, .tuple _, _, _ => by simp [PyData.eqv]
  | .tuple xs, .none, _, _ => by simp [PyData.eqv]
  | .tuple xs, .bool _, _, h => by simp [noB] at h
  | .tuple xs, .dict _, _, h => by simp [noB] at h
  | .tuple xs, .int _, _, _ => by simp [PyData.eqv]
  | .tuple xs, .str _, _, _ => by simp [PyData.eqv]
  | .tuple xs, .list _, _, _ => by simp [PyData.eqv]
theorem eqvAll_iff : ∀ {xs ys : List PyData}, noBs xs = true → noBs ys = true → (PyData.eqvAll xs ys = true ↔ xs = ys)
  | [], [], _, _ => by simp [PyData.eqvAll]
  | [], _ :: _, _, _ => by simp [PyData.eqvAll]
  | _ :: _, [], _, _ => by simp [PyData.eqvAll]
  | x :: xs, y :: ys, h1, h2 => by
    unfold noBs at h1 h2
    rw [Bool.and_eq_true] at h1 h2
    unfold PyData.eqvAll
    rw [Bool.and_eq_true, eqv_iff h1.1 h2.1, eqvAll_iff h1.2 h2.2]
    exact ⟨fun ⟨a, b⟩ => by rw [a, b], fun e => by cases e; exact ⟨rfl, rfl⟩⟩
end
theorem noBs_of {xs : List PyData} (h : ∀ x, x ∈ xs → noB x = true) : noBs xs = true := by
  induction xs with
  | nil => rfl
  | cons x xs ih =>
    unfold noBs
    rw [h x List.mem_cons_self, ih fun y hy => h y (List.mem_cons_of_mem _ hy)]
    rfl
theorem noB_ints (ns : List Int) : noB (.list (ns.map .int)) = true := by
  unfold noB
  exact noBs_of fun x hx => by obtain ⟨i, _, rfl⟩ := List.mem_map.mp hx; rfl
theorem noB_strs (ns : List Str) : noB (.list (ns.map .str)) = true := by
  unfold noB
  exact noBs_of fun x hx => by obtain ⟨i, _, rfl⟩ := List.mem_map.mp hx; rfl
/-- == of like data, as a fork -/
theorem fk_eqv {x y : PyData} {A B : Prop} (hx : noB x = true) (hy : noB y = true) (h1 : x = y → A) (h2 : x ≠ y → B) : (PyData.eqv x y = true → A) ∧ (PyData.eqv x y = false → B) :=
  ⟨fun h => h1 ((eqv_iff hx hy).mp h), fun h => h2 fun e => by rw [(eqv_iff hx hy).mpr e] at h; cases h⟩
/-! ### + and subscripts, by the values -/
theorem plus_int {i j : Int} {k : R → Prop} (h : k (.d (.int (i + j)))) : Plus (.int i) (.int j) k := h
theorem plus_str {s t : Str} {k : R → Prop} (h1 : s.length + t.length ≤ lim) (h : k (.d (.str (s ++ t)))) : Plus (.str s) (.str t) k := ⟨h1, h⟩
theorem plus_list {xs ys : List PyData} {k : R → Prop} (h1 : xs.length + ys.length ≤ lim) (h : k (.new (xs ++ ys))) : Plus (.list xs) (.list ys) k := ⟨h1, h⟩
theorem wd_plusI {B : Bs} {K : Fr} {ρ : En} {ta tb : TE} {QD : PyData → En → Prop} (h : WD B K ta ρ fun x ρ1 => ∃ i, x = .int i ∧ WD B K tb ρ1 fun y ρ2 => ∃ j, y = .int j ∧ QD (.int (i + j)) ρ2) : WD B K (tOp (rPlus K) ta tb) ρ QD :=
  wd_e (we_plus (wd_mono h fun x ρ1 ⟨i, hx, h2⟩ => by
    subst hx
    exact wd_mono h2 fun y ρ2 ⟨j, hy, q⟩ => by
      subst hy
      exact plus_int ⟨_, rfl, q⟩))
theorem len_map {α : Type} {f : α → PyData} {as : List α} {k : Int → Prop} (h : k as.length) : Len (.list (as.map f)) k := by
  show k (as.map f).length
  rw [List.length_map]
  exact h
theorem len_mapT {α : Type} {f : α → PyData} {as : List α} {k : Int → Prop} (h : k as.length) : Len (.tuple (as.map f)) k := by
  show k (as.map f).length
  rw [List.length_map]
  exact h
theorem len_list {xs : List PyData} {k : Int → Prop} (h : k xs.length) : Len (.list xs) k := h
theorem len_tup {xs : List PyData} {k : Int → Prop} (h : k xs.length) : Len (.tuple xs) k := h
theorem atI_map {α β : Type} {f : α → β} {xs : List α} {i : Int} {x : α} (h : atI xs i = some x) : atI (xs.map f) i = some (f x) := by
  unfold atI at h ⊢
  rw [List.length_map]
  cases e : ixN xs.length i with
  | none => rw [e] at h; cases h
  | some j =>
    rw [e] at h
    show (xs.map f)[j]? = _
    rw [List.getElem?_map, show xs[j]? = some x from h]
    rfl
theorem idx_map {α : Type} {f : α → PyData} {xs : List α} {i : Int} {x : α} {k : PyData → Prop} (h : atI xs i = some x) (q : k (f x)) : Idx (.list (xs.map f)) (.int i) k := ⟨_, atI_map h, q⟩
theorem idx_mapT {α : Type} {f : α → PyData} {xs : List α} {i : Int} {x : α} {k : PyData → Prop} (h : atI xs i = some x) (q : k (f x)) : Idx (.tuple (xs.map f)) (.int i) k := ⟨_, atI_map h, q⟩
theorem atI_pos {α : Type} {xs : List α} {i : Int} {n : Nat} (e : i = (n : Int)) (h : n < xs.length) : atI xs i = some xs[n] := by
  subst e
  exact atI_nat (List.getElem?_eq_getElem h)
theorem idx_list {xs : List PyData} {i : Int} {d : PyData} {k : PyData → Prop} (h : atI xs i = some d) (q : k d) : Idx (.list xs) (.int i) k := ⟨d, h, q⟩
theorem idx_tup {xs : List PyData} {i : Int} {d : PyData} {k : PyData → Prop} (h : atI xs i = some d) (q : k d) : Idx (.tuple xs) (.int i) k := ⟨d, h, q⟩
theorem idx_str {z : Str} {i : Int} {c : Nat} {k : PyData → Prop} (hz : z.length ≤ lim) (h : atI z.cps.toList i = some c) (q : k (.str ⟨#[c]⟩)) : Idx (.str z) (.int i) k := ⟨hz, c, h, q⟩
/-! ### an own list is given away, or frozen where it stands -/
/-- a slot's own thing is given away -/
theorem EnvOk.giveL {B : Bs} {K : Fr} {F H : Hp} {σ : L2.St} {ρ : En} (E : EnvOk B K F H σ ρ) {j : Nat} {l : L} (hj : ρ[j]? = some (some l)) (np : NP B j) :
    ∃ v, σ[j]? = some (some v) ∧ EnvOk B K F H σ (ρ.set j none) ∧ SlotOk K F H v l ∧ ∀ a, LFp v l a → B.H0 a = none ∧ ∀ i, ¬ SFp σ (ρ.set j none) i a := by
  obtain ⟨v, e, s⟩ := E.sl j l hj
  refine ⟨v, e, E.weak (List.length_set ..) (fun i l h => (set_none h).2) fun i b hb => ?_, s, fun a ha => ⟨?_, fun i ⟨m, w, q1, q2, q3⟩ => ?_⟩⟩
  · have : i ≠ j := fun z => by subst z; exact np b hb
    rw [List.getElem?_set_ne (Ne.symm this)]
  · exact (E.mine j a ⟨l, v, hj, e, ha⟩).elim id fun h => absurd h (np a)
  · obtain ⟨n, q⟩ := set_none q1
    exact n (E.sep i j a ⟨m, w, q, q2, q3⟩ ⟨l, v, hj, e, ha⟩)
theorem EnvOk.give {B : Bs} {K : Fr} {F H : Hp} {σ : L2.St} {ρ : En} (E : EnvOk B K F H σ ρ) {j : Nat} {xs : List PyData} (hj : ρ[j]? = some (some (.own xs))) (np : NP B j) :
    ∃ v, σ[j]? = some (some v) ∧ EnvOk B K F H σ (ρ.set j none) ∧ ROk B K F H σ (ρ.set j none) v (.new xs) := by
  obtain ⟨v, e, E', ⟨a, vs, rfl, k1, k2, k3⟩, hf⟩ := E.giveL hj np
  exact ⟨_, e, E', a, vs, rfl, k1, k2, k3, (hf a rfl).1, (hf a rfl).2⟩
theorem EnvOk.giveT {B : Bs} {K : Fr} {F H : Hp} {σ : L2.St} {ρ : En} (E : EnvOk B K F H σ ρ) {j : Nat} {t : OT} (hj : ρ[j]? = some (some (.deep t))) (np : NP B j) :
    ∃ v, σ[j]? = some (some v) ∧ EnvOk B K F H σ (ρ.set j none) ∧ ROk B K F H σ (ρ.set j none) v (.deep t) := by
  obtain ⟨v, e, E', s, hf⟩ := E.giveL hj np
  exact ⟨_, e, E', s.1, s.2, fun a ha => hf a ha⟩
theorem EnvOk.giveD {B : Bs} {K : Fr} {F H : Hp} {σ : L2.St} {ρ : En} (E : EnvOk B K F H σ ρ) {j : Nat} {ks : List Key} {xs : List PyData} (hj : ρ[j]? = some (some (.ownD ks xs))) (np : NP B j) :
    ∃ v, σ[j]? = some (some v) ∧ EnvOk B K F H σ (ρ.set j none) ∧ ROk B K F H σ (ρ.set j none) v (.newD ks xs) := by
  obtain ⟨v, e, E', ⟨a, vs, rfl, k1, k2, hl, k3⟩, hf⟩ := E.giveL hj np
  exact ⟨_, e, E', a, vs, rfl, k1, k2, hl, k3, (hf a rfl).1, (hf a rfl).2⟩
theorem we_take {B : Bs} {K : Fr} {ρ : En} {Q : R → En → Prop} {j : Nat} {xs : List PyData} (hj : ρ[j]? = some (some (.own xs))) (np : NP B j) (q : Q (.new xs) (ρ.set j none)) : WE B K (tVar j) ρ Q := fun F H σ E QQ k => by
  obtain ⟨v, e, E', r⟩ := E.give hj np
  exact ⟨v, e, k v (.new xs) F H _ E' (Ex.refl F) r q⟩
theorem ws_retO {B : Bs} {K : Fr} {ρ : En} {Z : Zs} {j : Nat} {xs : List PyData} (hj : ρ[j]? = some (some (.own xs))) (np : NP B j) (q : Z.rt (.new xs) (ρ.set j none)) : WS B K (tRet (tVar j)) ρ Z := ws_ret (we_take hj np q)
theorem wd_frz {B : Bs} {K : Fr} {ρ : En} {QD : PyData → En → Prop} {j : Nat} {xs : List PyData} (hj : ρ[j]? = some (some (.own xs))) (np : NP B j) (q : QD (.list xs) (ρ.set j (some (.d (.list xs))))) : WD B K (tVar j) ρ QD := fun F H σ E QQ k => by
  obtain ⟨v, e, E', r⟩ := E.give hj np
  obtain ⟨F', E2, e2, r2⟩ := E'.asD (r := .new xs) r rfl
  refine ⟨v, e, k v (.list xs) F' H _ ?_ e2 r2 q⟩
  have E3 := E2.setD (i := j) (l := .d (.list xs)) r2 rfl np
  have hl : j < σ.length := (List.getElem?_eq_some_iff.mp e).1
  have e3 : σ.set j (some v) = σ := by
    refine List.ext_getElem? fun i => ?_
    by_cases c : i = j
    · subst c; rw [List.getElem?_set_self hl, e]
    · rw [List.getElem?_set_ne (Ne.symm c)]
  rw [e3, List.set_set] at E3
  exact E3
theorem we_takeT {B : Bs} {K : Fr} {ρ : En} {Q : R → En → Prop} {j : Nat} {t : OT} (hj : ρ[j]? = some (some (.deep t))) (np : NP B j) (q : Q (.deep t) (ρ.set j none)) : WE B K (tVar j) ρ Q := fun F H σ E QQ k => by
  obtain ⟨v, e, E', r⟩ := E.giveT hj np
  exact ⟨v, e, k v (.deep t) F H _ E' (Ex.refl F) r q⟩
theorem we_takeD {B : Bs} {K : Fr} {ρ : En} {Q : R → En → Prop} {j : Nat} {ks : List Key} {xs : List PyData} (hj : ρ[j]? = some (some (.ownD ks xs))) (np : NP B j) (q : Q (.newD ks xs) (ρ.set j none)) : WE B K (tVar j) ρ Q := fun F H σ E QQ k => by
  obtain ⟨v, e, E', r⟩ := E.giveD hj np
  exact ⟨v, e, k v (.newD ks xs) F H _ E' (Ex.refl F) r q⟩
theorem ws_retT {B : Bs} {K : Fr} {ρ : En} {Z : Zs} {j : Nat} {t : OT} (hj : ρ[j]? = some (some (.deep t))) (np : NP B j) (q : Z.rt (.deep t) (ρ.set j none)) : WS B K (tRet (tVar j)) ρ Z := ws_ret (we_takeT hj np q)
theorem ws_retD {B : Bs} {K : Fr} {ρ : En} {Z : Zs} {j : Nat} {ks : List Key} {xs : List PyData} (hj : ρ[j]? = some (some (.ownD ks xs))) (np : NP B j) (q : Z.rt (.newD ks xs) (ρ.set j none)) : WS B K (tRet (tVar j)) ρ Z := ws_ret (we_takeD hj np q)
theorem wd_frzT {B : Bs} {K : Fr} {ρ : En} {QD : PyData → En → Prop} {j : Nat} {t : OT} (hj : ρ[j]? = some (some (.deep t))) (np : NP B j) (hd : t.isD = true) (q : QD t.data (ρ.set j (some (.d t.data)))) : WD B K (tVar j) ρ QD := fun F H σ E QQ k => by
  obtain ⟨v, e, E', r⟩ := E.giveT hj np
  obtain ⟨F', E2, e2, r2⟩ := E'.asD (r := .deep t) (x := t.data) r (by unfold R.toD; simp only [hd, if_true])
  refine ⟨v, e, k v _ F' H _ ?_ e2 r2 q⟩
  have E3 := E2.setD (i := j) (l := .d t.data) r2 rfl np
  have hl : j < σ.length := (List.getElem?_eq_some_iff.mp e).1
  have e3 : σ.set j (some v) = σ := by
    refine List.ext_getElem? fun i => ?_
    by_cases c : i = j
    · subst c; rw [List.getElem?_set_self hl, e]
    · rw [List.getElem?_set_ne (Ne.symm c)]
  rw [e3, List.set_set] at E3
  exact E3
theorem wt_yes {B : Bs} {K : Fr} {ρ : En} {QT : Bool → En → Prop} (h : QT true ρ) : WT B K tYes ρ QT := fun F H σ E QQ k => k true F H ρ E (Ex.refl F) h
/-! ### % and // by a number above 0 -/
theorem wd_modP {B : Bs} {K : Fr} {ρ : En} {ta tb : TE} {QD : PyData → En → Prop} (h : WD B K ta ρ fun x ρ1 => ∃ i, x = .int i ∧ WD B K tb ρ1 fun y ρ2 => ∃ j, y = .int j ∧ 0 < j ∧ QD (.int (i % j)) ρ2) : WD B K (tOp (rI (fun _ j => j ≠ 0) fun i j => .int (i.fmod j)) ta tb) ρ QD :=
  wd_iop (C := fun _ j => j ≠ 0) (g := fun i j => i.fmod j) (wd_mono h fun x ρ1 ⟨i, hx, h2⟩ => ⟨i, hx, wd_mono h2 fun y ρ2 ⟨j, hy, hj, q⟩ => ⟨j, hy, Int.ne_of_gt hj, by rw [Int.fmod_eq_emod_of_nonneg i (Int.le_of_lt hj)]; exact q⟩⟩)
theorem wd_divP {B : Bs} {K : Fr} {ρ : En} {ta tb : TE} {QD : PyData → En → Prop} (h : WD B K ta ρ fun x ρ1 => ∃ i, x = .int i ∧ WD B K tb ρ1 fun y ρ2 => ∃ j, y = .int j ∧ (0 < j ∧ j < 1073741824) ∧ QD (.int (i / j)) ρ2) : WD B K (tOp (rI CDivN fun i j => .int (i.fdiv j)) ta tb) ρ QD :=
  wd_iop (C := CDivN) (g := fun i j => i.fdiv j) (wd_mono h fun x ρ1 ⟨i, hx, h2⟩ => ⟨i, hx, wd_mono h2 fun y ρ2 ⟨j, hy, hj, q⟩ => ⟨j, hy, ⟨Int.ne_of_gt hj.1, by omega⟩, by rw [Int.fdiv_eq_ediv_of_nonneg i (Int.le_of_lt hj.1)]; exact q⟩⟩)
theorem wd_mulP {B : Bs} {K : Fr} {ρ : En} {ta tb : TE} {QD : PyData → En → Prop} (h : WD B K ta ρ fun x ρ1 => ∃ i, x = .int i ∧ WD B K tb ρ1 fun y ρ2 => ∃ j, y = .int j ∧ CMul i j ∧ QD (.int (i * j)) ρ2) : WD B K (tOp (rI CMul fun i j => .int (i * j)) ta tb) ρ QD :=
  wd_iop (C := CMul) (g := fun i j => i * j) h
/-! ### sep.join(xs) -/
theorem wd_join {B : Bs} {K : Fr} {ρ : En} {ta tb : TE} {QD : PyData → En → Prop} (h : WD B K ta ρ fun x ρ1 => ∃ a, x = .str a ∧ WD B K tb ρ1 fun y ρ2 => ∃ ys : List Str, y = .list (ys.map .str) ∧ (ys.map (·.length)).sum + ys.length * a.length ≤ 16777216 ∧ QD (.str (Txt.join a ys)) ρ2) : WD B K (tM1 (rJoin K) ta tb) ρ QD := fun F H σ E QQ k =>
  h F H σ E _ fun v x F1 H1 ρ1 E1 e1 rv ⟨a, hx, q⟩ => by
    subst hx
    cases rv
    refine ⟨⟨a, rfl⟩, q F1 H1 σ E1 _ fun u y F2 H2 ρ2 E2 e2 ru ⟨ys, hy, hz, q2⟩ => ?_⟩
    subst hy
    cases ru with
    | @lst p vs xs hp ra =>
    have e := ra.strs
    subst e
    exact ⟨a, p, ys, rfl, rfl, .inl (.inl (.inl (E2.fh _ _ hp))), hz, k _ _ F2 H2 ρ2 E2 (e1.trans e2) (.str _) q2⟩
theorem wd_joinO {B : Bs} {K : Fr} {ρ : En} {a : Str} {j : Nat} {ys : List Str} {QD : PyData → En → Prop} (hj : ρ[j]? = some (some (.own (ys.map .str)))) (hz : (ys.map (·.length)).sum + ys.length * a.length ≤ 16777216) (q : QD (.str (Txt.join a ys)) ρ) : WD B K (tM1 (rJoin K) (tC (.str a)) (tVar j)) ρ QD := fun F H σ E QQ k => by
  obtain ⟨p, vs, e, _, k2, k3⟩ := E.own_at hj
  have e3 := k3.strs
  subst e3
  exact ⟨⟨a, rfl⟩, .ref p, e, a, p, ys, rfl, rfl, .inl (.inl (.inl k2)), hz, k _ _ F H ρ E (Ex.refl F) (.str _) q⟩
/-! ### one sign in a text -/
abbrev rInS1 : R2 := fun x y H Q => ∃ (c : Nat) (z : Str), x = .str ⟨#[c]⟩ ∧ y = .str z ∧ Q (.bl (decide (c ∈ z.cps.toList))) H
abbrev rNiS1 : R2 := fun x y H Q => ∃ (c : Nat) (z : Str), x = .str ⟨#[c]⟩ ∧ y = .str z ∧ Q (.bl (!decide (c ∈ z.cps.toList))) H
theorem wd_inSign {B : Bs} {K : Fr} {ρ : En} {ta tb : TE} {QD : PyData → En → Prop} (h : WD B K ta ρ fun x ρ1 => ∃ c, x = .str ⟨#[c]⟩ ∧ WD B K tb ρ1 fun y ρ2 => ∃ z, y = .str z ∧ QD (.bool (decide (c ∈ z.cps.toList))) ρ2) : WD B K (tOp rInS1 ta tb) ρ QD := fun F H σ E QQ k =>
  h F H σ E _ fun v x F1 H1 ρ1 E1 e1 rv ⟨i, hx, q⟩ => q F1 H1 σ E1 _ fun u y F2 H2 ρ2 E2 e2 ru ⟨j, hy, q2⟩ => by
    subst hx hy
    cases rv; cases ru
    exact ⟨i, j, rfl, rfl, k _ _ F2 H2 ρ2 E2 (e1.trans e2) (.bl _) q2⟩
theorem wd_niSign {B : Bs} {K : Fr} {ρ : En} {ta tb : TE} {QD : PyData → En → Prop} (h : WD B K ta ρ fun x ρ1 => ∃ c, x = .str ⟨#[c]⟩ ∧ WD B K tb ρ1 fun y ρ2 => ∃ z, y = .str z ∧ QD (.bool (!decide (c ∈ z.cps.toList))) ρ2) : WD B K (tOp rNiS1 ta tb) ρ QD := fun F H σ E QQ k =>
  h F H σ E _ fun v x F1 H1 ρ1 E1 e1 rv ⟨i, hx, q⟩ => q F1 H1 σ E1 _ fun u y F2 H2 ρ2 E2 e2 ru ⟨j, hy, q2⟩ => by
    subst hx hy
    cases rv; cases ru
    exact ⟨i, j, rfl, rfl, k _ _ F2 H2 ρ2 E2 (e1.trans e2) (.bl _) q2⟩
/-! ### what the top has written -/
abbrev veX : List Value := [.type "ValueError", .type "Exception", .type "BaseException", .type "object"]
structure ExcT (K : Fr) (mg : Str → Option Value) (nm : Str) (a : Addr) : Prop where
  g : mg nm = some (.ref a)
  x : PySem.W.excIn K a veX "ValueError.__new__" = true
  k : PySem.W.keepIn K (.ref a) = true
  b : PySem.W.subIn K (.ref a) (.type "BaseException") = some true
  t : PySem.W.typeIn K (.ref a) = some (.type "type")
structure Df (K : Fr) (mg : Str → Option Value) (nm : Str) (st : Stmt) (ps : List Str) (f : Addr) (fd : FuncData) : Prop where
  F : Fun K nm nm st f fd
  g : mg nm = some (.ref f)
  b : Binds K fd ps []
theorem Df.kp {K : Fr} {mg : Str → Option Value} {nm : Str} {st : Stmt} {ps : List Str} {f : Addr} {fd : FuncData} (d : Df K mg nm st ps f fd) : PySem.W.keepIn K (.ref f) = true := d.F.kp
/-- the law's own meaning: True -/
def G_law : GF := fun ls Po _ => ∃ ns : List Int, ls = [.scr ns] ∧ ns.length ≤ 63 ∧ Po (.d (.bool true)) []
theorem law_sp {K : Fr} {H : Hp} {a : Addr} {ns : List Int} (hS : SqL K H a (ns.map V.int)) (hl : ns.length ≤ 63) : SpG K none G_law [.ref a] H (fun v _ => v = .bl true) fun _ _ _ => False := by
  refine ⟨H, H, [.scr ns], fun r _ => r = .d (.bool true), fun _ => False, args_pl (vs := [.ref a]) (Ex.refl H) rfl (fun i l e => ?_), ⟨ns, rfl, hl, rfl⟩, fun v r F' H' ys st rv _ q => ?_, fun C F' H' ys _ _ h => h⟩
  · cases i with
    | zero => cases e; exact ⟨⟨.ref a, rfl, a, rfl, hS⟩, rfl⟩
    | succ i => simp at e
  · subst q
    cases (show Rp K F' v (.bool true) from rv)
    rfl
end SV

set_option maxHeartbeats 1000000
namespace SV
open PySem PySem.Spec L2
open Evl (Ex)
/-! ### try: f(..) except C as e: what a refusal is -/
def tTry (K : Fr) (c : Value) (i : Nat) (tb : WX → TS) (ts : Addr → Value → Option Addr → TS) : TS := fun D σ H => tb (wAs K c i ts (fun _ _ _ _ => False) D) D σ H
section
variable {X : Cx} {x n : Str} {c : Value} {i : Nat} {body suite : List Stmt} {b0 : Stmt} {np pos pos' : Pos} {tb : WX → TS} {ts : Addr → Value → Option Addr → TS}
theorem k_try (K : Fr) (hK : X.K = K) (hs : X.stack = X.env :: X.outer) (hf : X.env.frame = some X.env.locals) (hN : X.N.Nodup) (hi : X.N[i]? = some n) (hln : X.env.kindOf n = some .local) (hc : Names X x c)
    (hb : ∀ (W : WX) (pn : List (Addr × Obj)) (xe : Value → Shared → Prop), Takes (X.tr pn xe) W → PassesOwn (model X.prog X.w) X.A X.env xe → PSs (X.tr pn xe) body (tb W))
    (hsu : ∀ (a : Addr) (oe : Obj) (cls : Value) (d : Option Addr) (pn : List (Addr × Obj)), Zc cls d oe → (∃ vs, oe.data = .fields vs) → PSs (X.suite a ((a, oe) :: pn)) (b0 :: suite) (ts a cls d)) :
    PS X (.Try body [.ExceptHandler (some (.Name x np)) (some n) (b0 :: suite) pos'] [] [] pos) (tTry K c i tb ts) := hK ▸ ps_try_as (Wout := fun _ _ _ _ => False) hs hf hN hi hln hc takes0 hb hsu
end
/-! isinstance of the error that a suite holds -/
abbrev rIsX (K : Fr) (a : Addr) (cls : Value) (d : Option Addr) : List V → Hp → VK → Prop := fun xs H Q => ∃ (D : Addr) (c : V) (cv : Value) (b : Bool), cls = .ref D ∧ d = none ∧ ExcC K D ∧ xs = [.ref a, c] ∧ ClsV c cv ∧ PySem.W.kitOne K (.ref D) cv = some b ∧ Q (.bl b) H
abbrev rIsXT (K : Fr) (a : Addr) (cls : Value) (d : Option Addr) : List V → Hp → VK → Prop := fun xs H Q => ∃ (D : Addr) (tp : Addr) (cs : List V) (us : List Value) (b : Bool), cls = .ref D ∧ d = none ∧ ExcC K D ∧ xs = [.ref a, .ref tp] ∧ H tp = some (.tup cs) ∧ Paired ClsV cs us ∧ PySem.W.kitAny K (.ref D) us = some b ∧ Q (.bl b) H
theorem k_isx {X : Cx} {a : Addr} {oe : Obj} {cls : Value} {d : Option Addr} {pn : List (Addr × Obj)} (K : Fr) (hz : Zc cls d oe) (hf : ∃ vs, oe.data = .fields vs) (h : X.K = K := by rfl) : CallR (X.suite a ((a, oe) :: pn)) (.builtin "isinstance") (rIsX K a cls d) := by
  subst h
  intro pins s σ H xs us Q I r hh
  obtain ⟨D, c, cv, b, rfl, rfl, C, rfl, k, e, q⟩ := hh
  exact call_isE C hz hf pins s σ H _ us Q I r ⟨c, cv, b, rfl, fun u hu => k.eq hu, e, q⟩
theorem k_isxT {X : Cx} {a : Addr} {oe : Obj} {cls : Value} {d : Option Addr} {pn : List (Addr × Obj)} (K : Fr) (hz : Zc cls d oe) (hf : ∃ vs, oe.data = .fields vs) (h : X.K = K := by rfl) : CallR (X.suite a ((a, oe) :: pn)) (.builtin "isinstance") (rIsXT K a cls d) := by
  subst h
  intro pins s σ H xs us Q I r hh
  obtain ⟨D, tp, cs, ws, b, rfl, rfl, C, rfl, hT, k, e, q⟩ := hh
  obtain ⟨u1, u2, rfl, r1, r2⟩ := vals2 r
  cases (show u1 = Value.ref a from r1)
  cases (show u2 = Value.ref tp from r2)
  obtain ⟨hget, _⟩ := I.pin (a, oe) (List.mem_append.mpr (.inl List.mem_cons_self))
  obtain ⟨vs, hv⟩ := hf
  have J : PySem.W.InstAt s.heap a oe D none := by
    obtain ⟨oc, od, oda, osl⟩ := oe
    obtain ⟨z1, z2⟩ := hz
    dsimp only at z1 z2 hv
    subst z1 z2 hv
    exact ⟨hget, rfl, rfl, trivial⟩
  obtain ⟨_, its, rv, o, h1, h2, n, h3⟩ := (show ObjOk X.prog X.w H s.heap tp (.tup cs) from I.hok tp _ hT)
  have e3 := ClsV.all k rv
  subst e3
  obtain ⟨oc, od, dt, sl⟩ := o
  simp only at h2 h3
  subst h2 h3
  exact PySem.W.kia_tup (PySem.W.handS_kitx_exc C.hg C.hk C.hs C.hd C.ha C.hn C.ht C.hm) I.kIn J h1 e (fun z => nomatch z) fun tk => ⟨.bl b, H, I.tok tk, rfl, q⟩
/-! ### what a try lets its body raise -/
/-- class C may be raised where the slots read as ρ -/
def EKr (B : Bs) (K : Fr) (W : WX) (C : Addr) (ρ : En) : Prop := ∀ F H σ, EnvOk B K F H σ ρ → W (.ref C) none σ H
abbrev Bs.up (B : Bs) (F : Hp) : Bs := ⟨F, B.H0, B.pin⟩
def tTryO (K : Fr) (c : Value) (tb : WX → TS) (ts : Addr → Value → Option Addr → TS) : TS := fun D σ H => tb (wOnly K c ts (fun _ _ _ _ => False) D) D σ H
section
variable {X : Cx} {x : Str} {c : Value} {body suite : List Stmt} {b0 : Stmt} {np pos pos' : Pos} {tb : WX → TS} {ts : Addr → Value → Option Addr → TS}
theorem k_tryO (K : Fr) (hK : X.K = K) (hs : X.stack = X.env :: X.outer) (hf : X.env.frame = some X.env.locals) (hc : Names X x c)
    (hb : ∀ (W : WX) (pn : List (Addr × Obj)) (xe : Value → Shared → Prop), Takes (X.tr pn xe) W → PassesOwn (model X.prog X.w) X.A X.env xe → PSs (X.tr pn xe) body (tb W))
    (hsu : ∀ (a : Addr) (oe : Obj) (cls : Value) (d : Option Addr) (pn : List (Addr × Obj)), Zc cls d oe → (∃ vs, oe.data = .fields vs) → PSs (X.suite a ((a, oe) :: pn)) (b0 :: suite) (ts a cls d)) :
    PS X (.Try body [.ExceptHandler (some (.Name x np)) none (b0 :: suite) pos'] [] [] pos) (tTryO K c tb ts) := hK ▸ ps_try_only (Wout := fun _ _ _ _ => False) hs hf hc takes0 hb hsu
end
section
variable {B : Bs} {K : Fr} {F H : Hp} {σ : L2.St} {ρ : En} {ta : TA} {Q : R → En → Prop} {QD : PyData → En → Prop} {Z : Zs}
theorem EnvOk.upB (E : EnvOk B K F H σ ρ) : EnvOk (B.up F) K F H σ ρ :=
  ⟨⟨Ex.refl F, E.st.fh, E.st.h0, E.st.th, fun a h1 _ => h1⟩, E.len, E.sl, E.sep, E.mine, E.pin⟩
theorem EnvOk.dnB {F0 H0 : Hp} (E0 : St1 B F0 H0) (E : EnvOk (B.up F0) K F H σ ρ) : EnvOk B K F H σ ρ :=
  ⟨⟨E0.f0.trans E.st.f0, E.st.fh, E.st.h0, E.st.th, fun a h1 h2 => E.st.nf a (E0.nf a h1 h2) h2⟩, E.len, E.sl, E.sep, E.mine, E.pin⟩
theorem ZOk.upB {F0 : Hp} {H0 : Hp} {D : Ends} (E0 : St1 B F0 H0) (ok : ZOk B K F0 Z D) : ∀ F1, ZOk (B.up F0) K F1 Z D := fun F1 =>
  ⟨fun F H σ ρ E e => ok.nx F H σ ρ (E.dnB E0) E.st.f0, fun F H σ ρ v r E e rv => ok.rt F H σ ρ v r (E.dnB E0) E.st.f0 rv, fun F H σ ρ E e => ok.bk F H σ ρ (E.dnB E0) E.st.f0, fun F H σ ρ E e => ok.ct F H σ ρ (E.dnB E0) E.st.f0⟩
/-- try: body, except C as slot i -/
theorem ws_try {c : Value} {i : Nat} {tb : WX → TS} {ts : Addr → Value → Option Addr → TS} (np : NP B i) (S : Addr → En → Prop)
    (h : ∀ (F0 : Hp) (W : WX), (∀ C ρ1, S C ρ1 → EKr (B.up F0) K W C ρ1) → WS (B.up F0) K (tb W) ρ Z)
    (hs : ∀ (F0 : Hp) C ρ1, S C ρ1 → PySem.W.exmOne K (.ref C) c = some true ∧ ∀ a, WS (B.up F0) K (ts a (.ref C) none) (ρ1.set i (some (.raw (.ref a)))) ⟨fun ρ2 => Z.nx (ρ2.set i none), Z.rt, fun ρ2 => Z.bk (ρ2.set i none), fun ρ2 => Z.ct (ρ2.set i none)⟩) :
    WS B K (tTry K c i tb ts) ρ Z := fun F H σ E D ok => by
  have Zu := ok.upB E.st
  refine h F _ (fun C ρ1 hS F1 H1 σ1 E1 => ?_) F H σ E.upB D (Zu F)
  obtain ⟨hm, hw⟩ := hs F C ρ1 hS
  refine ⟨true, hm, fun _ a ha => ?_, fun z => nomatch z⟩
  have z1 := Zu F1
  exact hw a F1 H1 _ (E1.setD (l := .raw (.ref a)) rfl rfl np) _ ⟨fun F2 H2 σ2 ρ2 E2 e2 q => z1.nx F2 H2 _ _ (E2.forget np) e2 q, fun F2 H2 σ2 ρ2 v r E2 e2 rv q => z1.rt F2 H2 σ2 ρ2 v r E2 e2 rv q, fun F2 H2 σ2 ρ2 E2 e2 q => z1.bk F2 H2 _ _ (E2.forget np) e2 q, fun F2 H2 σ2 ρ2 E2 e2 q => z1.ct F2 H2 _ _ (E2.forget np) e2 q⟩
/-- try: body, except C without a name -/
theorem ws_tryO {c : Value} {tb : WX → TS} {ts : Addr → Value → Option Addr → TS} (S : Addr → En → Prop)
    (h : ∀ (F0 : Hp) (W : WX), (∀ C ρ1, S C ρ1 → EKr (B.up F0) K W C ρ1) → WS (B.up F0) K (tb W) ρ Z)
    (hs : ∀ (F0 : Hp) C ρ1, S C ρ1 → PySem.W.exmOne K (.ref C) c = some true ∧ ∀ a, WS (B.up F0) K (ts a (.ref C) none) ρ1 Z) :
    WS B K (tTryO K c tb ts) ρ Z := fun F H σ E D ok => by
  have Zu := ok.upB E.st
  refine h F _ (fun C ρ1 hS F1 H1 σ1 E1 => ?_) F H σ E.upB D (Zu F)
  obtain ⟨hm, hw⟩ := hs F C ρ1 hS
  exact ⟨true, hm, fun _ a ha => hw a F1 H1 _ E1 _ (Zu F1), fun z => nomatch z⟩
/-- a call within a try's body -/
theorem we_callS {G : GF} {W : WX} (h : WA B K ta ρ fun as ρ1 => ∃ ls Pe, argL as = some ls ∧ G ls (fun r _ => Q r ρ1) Pe ∧ ∀ C, Pe C → EKr B K W C ρ1) : WE B K (tCallS (SpG K none G) (L2.WE W) ta) ρ Q := fun F H σ E0 QQ k =>
  h F H σ E0 _ fun vs as F1 H1 ρ1 E1 e1 av ⟨ls, Pe, ha, hG, hE⟩ => by
    show SpG K none G vs H1 QQ (L2.WE W σ)
    obtain ⟨hl, hs⟩ := args_sl (H := H1) av ha
    exact ⟨F1, H1, ls, fun r _ => Q r ρ1, Pe, args_pl E1.fh hl hs, hG, fun v r F' H' ys st rv _ q =>
      have E2 := E1.step st.stp
      k v r F' H' ρ1 E2 (e1.trans st.stp.ef) (ret_ok E2 E1.fr2 rv) q, fun C F' H' ys st _ hC => hE C hC F' H' σ (E1.step st.stp)⟩
theorem wd_isx {i : Nat} {a D : Addr} {c : V} {cv : Value} {b : Bool} (hi : ρ[i]? = some (some (.raw (.ref a)))) (C : ExcC K D) (k : ClsV c cv) (e : PySem.W.kitOne K (.ref D) cv = some b) (q : QD (.bool b) ρ) : WD B K (tCB (rIsX K a (.ref D) none) (tCons (tVar i) (tCons (tC c) tNil))) ρ QD := fun F H σ E QQ kk => by
  obtain ⟨v, hv, sv⟩ := E.sl i _ hi
  cases (show v = .ref a from sv)
  exact ⟨_, hv, D, c, cv, b, rfl, rfl, C, rfl, k, e, kk _ _ F H ρ E (Ex.refl F) (.bl b) q⟩
/-- a row of classes -/
inductive Cts : TA → List V → List Value → Prop
  | nil : Cts tNil [] []
  | cons {a : Addr} {t : TA} {cs : List V} {us : List Value} (h : Cts t cs us) : Cts (tCons (tC (.ref a)) t) (.ref a :: cs) (.ref a :: us)
theorem Cts.run {t : TA} {cs : List V} {us : List Value} (h : Cts t cs us) (σ : L2.St) (H : Hp) {Q : List V → Hp → Prop} (q : Q cs H) : t σ H Q := by
  induction h generalizing Q with
  | nil => exact q
  | cons h ih => exact ih q
theorem Cts.pair {t : TA} {cs : List V} {us : List Value} (h : Cts t cs us) : Paired ClsV cs us := by
  induction h with
  | nil => exact .nil
  | cons h ih => exact .cons (.own _) ih
theorem wd_isxT {i : Nat} {a D : Addr} {t : TA} {cs : List V} {us : List Value} {b : Bool} (hi : ρ[i]? = some (some (.raw (.ref a)))) (ht : Cts t cs us) (hl : cs.length ≤ sizeLine) (C : ExcC K D) (e : PySem.W.kitAny K (.ref D) us = some b) (q : QD (.bool b) ρ) : WD B K (tCB (rIsXT K a (.ref D) none) (tCons (tVar i) (tCons (tTup t) tNil))) ρ QD := fun F H σ E QQ kk => by
  obtain ⟨v, hv, sv⟩ := E.sl i _ hi
  cases (show v = .ref a from sv)
  refine ⟨_, hv, ht.run σ H ⟨hl, fun p hp => ?_⟩⟩
  obtain ⟨E2, e2⟩ := E.alloc (o := .tup cs) hp
  exact ⟨D, p, cs, us, b, rfl, rfl, C, rfl, upd_same, ht.pair, e, kk _ _ _ _ ρ E2 e2 (.bl b) q⟩
end
end SV

set_option maxHeartbeats 1000000
namespace SV
open PySem PySem.Spec L2
open Evl (Ex)
/-! ### a call that only reads own lists: its answer holds no lists -/
def atomD : PyData → Bool
  | .none => true
  | .bool _ => true
  | .int _ => true
  | .str _ => true
  | _ => false
abbrev flatR : R → Prop
  | .d x => atomD x = true
  | .new xs => ∀ x, x ∈ xs → atomD x = true
  | .scr _ => False
  | .raw _ => False
  | .deep _ => False
  | .newD _ _ => False
def argR (ρ : En) : List Ar → Option (List L)
  | [] => some []
  | .d x :: r => (argR ρ r).map (.d x :: ·)
  | .scr ns :: r => (argR ρ r).map (.scr ns :: ·)
  | .raw v :: r => (argR ρ r).map (.raw v :: ·)
  | .own j :: r => match ρ[j]? with
    | some (some (.own xs)) => (argR ρ r).map (.d (.list xs) :: ·)
    | some (some (.deep t)) => if t.isD = true then (argR ρ r).map (.d t.data :: ·) else none
    | _ => none
def tCallR (sp : Sp) (E : XK) (t : TA) : TE := fun σ H Q => True ∧ tCall sp [] E t σ H Q
def tCallRS (sp : Sp) (E : St → XK) (t : TA) : TE := fun σ H Q => True ∧ tCallS sp E t σ H Q
theorem pe_ro {X : Cx} {e : Expr} {sp : Sp} {E : XK} {t : TA} (h : PE X e (tCall sp [] E t)) : PE X e (tCallR sp E t) := ⟨fun pins s σ H Q I hh => h.run pins s σ H Q I hh.2⟩
theorem pe_roS {X : Cx} {e : Expr} {sp : Sp} {E : St → XK} {t : TA} (h : PE X e (tCallS sp E t)) : PE X e (tCallRS sp E t) := ⟨fun pins s σ H Q I hh => h.run pins s σ H Q I hh.2⟩
theorem Rp.atom {K : Fr} {F F' : Hp} {v : V} {x : PyData} (h : Rp K F v x) (a : atomD x = true) : Rp K F' v x := by
  cases h with
  | int i => exact .int i
  | bl b => exact .bl b
  | str s => exact .str s
  | non => exact .non
  | _ => cases a
theorem RpA.atom {K : Fr} {F F' : Hp} : ∀ {vs : List V} {xs : List PyData}, RpA K F vs xs → (∀ x, x ∈ xs → atomD x = true) → RpA K F' vs xs
  | _, _, .nil, _ => .nil
  | _, _, .cons h t, a => .cons (h.atom (a _ List.mem_cons_self)) (t.atom fun x hx => a x (List.mem_cons_of_mem _ hx))
section
variable {B : Bs} {K : Fr} {F H F' H' : Hp} {σ : L2.St} {ρ : En} {ta tr te : TA} {Q : R → En → Prop} {QD : PyData → En → Prop} {QA : List Ar → En → Prop} {Z : Zs}
theorem argsR_sl (E : EnvOk B K F H σ ρ) : ∀ {as : List Ar} {vs : List V} {ls : List L}, AOks K F σ vs as → argR ρ as = some ls → vs.length = ls.length ∧ ∀ (i : Nat) (l : L), ls[i]? = some l → (∃ v, vs[i]? = some v ∧ SlotOk K H H v l) ∧ l.pl = true
  | [], _, _, .nil, e => by
    cases e
    exact ⟨rfl, fun i l h => by simp at h⟩
  | a :: as, _, ls, .cons (v := v) (vs := vs) ha hs, e => by
    have key : ∃ l ls', ls = l :: ls' ∧ argR ρ as = some ls' ∧ SlotOk K H H v l ∧ l.pl = true := by
      cases a with
      | d x =>
        cases q : argR ρ as with
        | none => unfold argR at e; rw [q] at e; cases e
        | some ls' => unfold argR at e; rw [q] at e; cases e; exact ⟨_, ls', rfl, rfl, Rp.mono E.fh ha, rfl⟩
      | scr x =>
        cases q : argR ρ as with
        | none => unfold argR at e; rw [q] at e; cases e
        | some ls' => unfold argR at e; rw [q] at e; cases e; obtain ⟨a, e1, h⟩ := ha; exact ⟨_, ls', rfl, rfl, ⟨a, e1, E.fh.sl h⟩, rfl⟩
      | raw x =>
        cases q : argR ρ as with
        | none => unfold argR at e; rw [q] at e; cases e
        | some ls' => unfold argR at e; rw [q] at e; cases e; exact ⟨_, ls', rfl, rfl, ha, rfl⟩
      | own j =>
        unfold argR at e
        split at e
        · rename_i xs hj
          cases q : argR ρ as with
          | none => rw [q] at e; cases e
          | some ls' =>
            rw [q] at e; cases e
            obtain ⟨b, cs, hb, f1, f2, f3⟩ := E.own_at hj
            rw [show σ[j]? = some (some v) from ha] at hb
            cases hb
            exact ⟨_, ls', rfl, rfl, .lst f2 (f3.mono E.fh), rfl⟩
        · rename_i t hj
          by_cases c : t.isD = true
          · simp only [c, if_true] at e
            cases q : argR ρ as with
            | none => rw [q] at e; cases e
            | some ls' =>
              rw [q] at e; cases e
              obtain ⟨w, hb, f1, _⟩ := E.sl j _ hj
              rw [show σ[j]? = some (some v) from ha] at hb
              cases hb
              exact ⟨_, ls', rfl, rfl, f1.rp E.fh c fun _ _ => rfl, rfl⟩
          · simp only [c] at e
            cases e
        · cases e
    obtain ⟨l, ls', rfl, e', sl, no⟩ := key
    obtain ⟨h1, h2⟩ := argsR_sl E hs e'
    refine ⟨congrArg (· + 1) h1, fun i l2 h => ?_⟩
    cases i with
    | zero =>
      have z := Option.some.inj h
      subst z
      exact ⟨⟨v, rfl, sl⟩, no⟩
    | succ i => exact h2 i l2 h
theorem EnvOk.over (E : EnvOk B K F H σ ρ) (st : St1 ⟨H, H, none⟩ F' H') : EnvOk B K F H' σ ρ :=
  E.step ⟨Ex.refl F, fun a o e => st.h0 a o (E.fh a o e) (fun _ z => nomatch z), fun a o e => st.h0 a o e (fun _ z => nomatch z), fun a h _ => h⟩
theorem flat_ok (E : EnvOk B K F H σ ρ) (st : St1 ⟨H, H, none⟩ F' H') {v : V} {r : R} (rv : RetOk ⟨H, H, none⟩ K F' H' v r) (fl : flatR r) : ROk B K F H' σ ρ v r := by
  cases r with
  | d x => exact Rp.atom rv fl
  | new xs =>
    obtain ⟨a, ws, e, k1, k2, k3, k4⟩ := rv
    exact ⟨a, ws, e, E.fh.free k4, k2, k3.atom fl, (E.fr2 a k4).1, (E.fr2 a k4).2⟩
  | scr ns => exact fl.elim
  | raw w => exact fl.elim
  | deep t => exact fl.elim
  | newD ks xs => exact fl.elim
theorem we_callR {G : GF} {E : XK} (h : WA B K ta ρ fun as ρ1 => ∃ ls Pe, argR ρ1 as = some ls ∧ G ls (fun r _ => flatR r ∧ Q r ρ1) Pe ∧ ∀ C, Pe C → EK B K E C) : WE B K (tCallR (SpG K none G) E ta) ρ Q := fun F H σ E0 QQ k => ⟨trivial, by
  refine h F H σ E0 _ fun vs as F1 H1 ρ1 E1 e1 av ⟨ls, Pe, ha, hG, hE⟩ => ?_
  · show SpG K none G (vs ++ []) H1 QQ E
    rw [List.append_nil]
    obtain ⟨hl, hs⟩ := argsR_sl E1 av ha
    exact ⟨H1, H1, ls, fun r _ => flatR r ∧ Q r ρ1, Pe, args_pl (Ex.refl H1) hl hs, hG, fun v r F' H' ys st rv _ q => k v r F1 H' ρ1 (E1.over st) e1 (flat_ok E1 st rv q.1) q.2, fun C F' H' ys st _ hC => hE C hC F1 H' σ ρ1 (E1.over st)⟩⟩
theorem we_callRS {G : GF} {W : WX} (h : WA B K ta ρ fun as ρ1 => ∃ ls Pe, argR ρ1 as = some ls ∧ G ls (fun r _ => flatR r ∧ Q r ρ1) Pe ∧ ∀ C, Pe C → EKr B K W C ρ1) : WE B K (tCallRS (SpG K none G) (L2.WE W) ta) ρ Q := fun F H σ E0 QQ k => ⟨trivial, by
  refine h F H σ E0 _ fun vs as F1 H1 ρ1 E1 e1 av ⟨ls, Pe, ha, hG, hE⟩ => ?_
  · show SpG K none G vs H1 QQ (L2.WE W σ)
    obtain ⟨hl, hs⟩ := argsR_sl E1 av ha
    exact ⟨H1, H1, ls, fun r _ => flatR r ∧ Q r ρ1, Pe, args_pl (Ex.refl H1) hl hs, hG, fun v r F' H' ys st rv _ q => k v r F1 H' ρ1 (E1.over st) e1 (flat_ok E1 st rv q.1) q.2, fun C F' H' ys st _ hC => hE C hC F1 H' σ (E1.over st)⟩⟩
/-! arguments that no callee changes -/
def WAf (B : Bs) (K : Fr) (ta : TA) (ρ : En) (Q : List Ar → En → Prop) : Prop := WA B K ta ρ Q
theorem waf_nil (q : QA [] ρ) : WAf B K tNil ρ QA := wa_nil q
theorem waf_d {te : TE} (h : WD B K te ρ fun x ρ1 => WAf B K tr ρ1 fun as ρ2 => QA (.d x :: as) ρ2) : WAf B K (tCons te tr) ρ QA := wa_d h
theorem waf_scr {i : Nat} {ns : List Int} (h : ρ[i]? = some (some (.scr ns))) (q : WAf B K tr ρ fun as ρ2 => QA (.scr ns :: as) ρ2) : WAf B K (tCons (tVar i) tr) ρ QA := wa_e (we_scr h ⟨_, rfl, q⟩)
theorem waf_raw {i : Nat} {v : V} (h : ρ[i]? = some (some (.raw v))) (q : WAf B K tr ρ fun as ρ2 => QA (.raw v :: as) ρ2) : WAf B K (tCons (tVar i) tr) ρ QA := wa_e (we_rawv h ⟨_, rfl, q⟩)
theorem we_callF {G : GF} {E : XK} (h : WAf B K ta ρ fun as ρ1 => ∃ ls Pe, argL as = some ls ∧ G ls (fun r _ => Q r ρ1) Pe ∧ ∀ C, Pe C → EK B K E C) : WE B K (tCall (SpG K none G) [] E ta) ρ Q := we_call h
theorem we_callFS {G : GF} {W : WX} (h : WAf B K ta ρ fun as ρ1 => ∃ ls Pe, argL as = some ls ∧ G ls (fun r _ => Q r ρ1) Pe ∧ ∀ C, Pe C → EKr B K W C ρ1) : WE B K (tCallS (SpG K none G) (L2.WE W) ta) ρ Q := we_callS h
theorem wd_pow {t1 t2 : TE} (h : WD B K t1 ρ fun x ρ1 => ∃ i, x = .int i ∧ WD B K t2 ρ1 fun y ρ2 => ∃ j, y = .int j ∧ CPow i j ∧ QD (.int (i ^ j.toNat)) ρ2) : WD B K (tOp (rI CPow fun i j => .int (i ^ j.toNat)) t1 t2) ρ QD := fun F H σ E QQ k =>
  h F H σ E _ fun v x F1 H1 ρ1 E1 e1 rv ⟨i, hx, q⟩ => q F1 H1 σ E1 _ fun u y F2 H2 ρ2 E2 e2 ru ⟨j, hy, hc, q2⟩ => by
    subst hx hy
    cases rv; cases ru
    exact ⟨i, j, rfl, rfl, hc, k _ _ F2 H2 ρ2 E2 (e1.trans e2) (.int _) q2⟩
end
/-! classes against classes -/
theorem kit_self {K : Fr} {t : Value} : PySem.W.kitOne K t t = some true := if_pos (beq_self_eq_true _)
theorem kit_ne {K : Fr} {t : Value} {C : Addr} {b : Bool} (hne : (t == Value.ref C) = false) (hd : PySem.W.hasDictIn K C = true) (ht : PySem.W.typeIn K (.ref C) = some (.type "type")) (h : PySem.W.subIn K t (.ref C) = some b) : PySem.W.kitOne K t (.ref C) = some b := by
  obtain ⟨cd, hc, _⟩ := PySem.W.any_some hd
  have e2 : ((PySem.W.clsIn K C).isSome && PySem.W.typeIn K (.ref C) == some (.type "type")) = true := by rw [hc, ht] <;> rfl
  show (if (t == Value.ref C) = true then some true else (if ((PySem.W.clsIn K C).isSome && PySem.W.typeIn K (.ref C) == some (.type "type")) = true then PySem.W.subIn K t (.ref C) else none)) = some b
  rw [hne, if_neg (by decide), if_pos e2]
  exact h
theorem kit_bt {K : Fr} {a : Addr} {n : String} {b : Bool} (hm : PySem.W.kitMeta n = true) (h : PySem.W.subIn K (.ref a) (.type n) = some b) : PySem.W.kitOne K (.ref a) (.type n) = some b := by
  show (if (Value.ref a == Value.type n) = true then some true else (if PySem.W.kitMeta n = true then PySem.W.subIn K (.ref a) (.type n) else none)) = some b
  rw [if_pos hm, show (Value.ref a == Value.type n) = false from rfl, if_neg (by decide)]
  exact h
end SV

set_option maxHeartbeats 1000000
namespace SV
open PySem PySem.Spec L2 PyProof.Rows
open Evl (Ex)
/-! ### xs[a:b:c]: some items of a list, by a step -/
def tSl3 (K : Fr) (te : TE) (tl th ts : TO) : TE := fun σ H Q => te σ H fun x H1 => tl σ H1 fun _ H2 => th σ H2 fun _ H3 => ts σ H3 fun st H4 => st ≠ some 0 ∧ ∃ a xs, x = .ref a ∧ SqL K H4 a xs ∧ ∀ p ys, H4 p = none → (∀ y, y ∈ ys → y ∈ xs) → ys.length ≤ xs.length → Q (.ref p) (upd H4 p (.lst ys))
theorem vals_pick {xs : List V} {us : List Value} (r : Vals xs us) : ∀ l : List Nat, ∃ ys : List V, Vals ys (l.filterMap (us.toArray[·]?)) ∧ ∀ y, y ∈ ys → y ∈ xs
  | [] => ⟨[], .nil, fun _ h => nomatch h⟩
  | i :: l => by
    obtain ⟨ys, h1, h2⟩ := vals_pick r l
    cases e : xs[i]? with
    | none =>
      have e2 := r.none_of e
      refine ⟨ys, ?_, h2⟩
      rw [List.filterMap_cons, show us.toArray[i]? = none by simpa using e2]
      exact h1
    | some x =>
      obtain ⟨u, e2, ru⟩ := r.get e
      refine ⟨x :: ys, ?_, fun y hy => ?_⟩
      · rw [List.filterMap_cons, show us.toArray[i]? = some u by simpa using e2]
        exact .cons ru h1
      · rcases List.mem_cons.mp hy with h | h
        · rw [h]; exact List.mem_of_getElem? e
        · exact h2 y h
theorem k_slice3 {X : Cx} {e : Expr} {te : TE} {tl th ts : TO} {lo hi : Option Expr} {st : Expr} {p3 pos : Pos} (K : Fr) (hK : X.K = K) (he : PE X e te) (hl : PO X lo tl) (hu : PO X hi th) (hs : PO X (some st) ts) : PE X (.Subscript e (.Slice lo hi (some st) p3) pos) (tSl3 K te tl th ts) := by
  subst hK
  refine ⟨fun pins s σ H Q I h => ?_⟩
  refine Subscript_ (thn (he.run pins s σ H _ I h) fun v s1 ⟨x, H1, I1, r1, q1⟩ => ?_)
  refine wpAny_Slice (thn (hl.run pins s1 σ H1 _ I1 q1) fun vl s2 ⟨l, H2, I2, pl, q2⟩ => ?_)
  refine thn (hu.run pins s2 σ H2 _ I2 q2) fun vu s3 ⟨u, H3, I3, pu, q3⟩ => ?_
  refine thn (hs.run pins s3 σ H3 _ I3 q3) fun vs s4 ⟨o, H4, I4, ps, ne, a, xs, ex, hx, q⟩ => ?_
  subst ex
  cases r1
  have I5 : Inv X pins σ H4 { s4 with heap := s4.heap.push { cls := .type "slice", data := .fields #[vl, vu, vs] } } := I4.kept (t' := s4.toks) fun b ob q => Heap.get?_push_of_some _ q
  obtain ⟨its, r, ht, hz⟩ := I5.list hx
  have hlen := r.length
  show wpAny (model X.prog X.w) X.A (subscriptTail e (.Slice lo hi (some st) p3) (.ref a) (.ref s4.heap.objs.size)) (EP X pins σ Q) X.xe { s4 with heap := s4.heap.push { cls := .type "slice", data := .fields #[vl, vu, vs] } }
  refine tail_any (ops := [.ref a, .ref s4.heap.objs.size]) ht.isList.typeIs (PySem.slot_list_getitem.lookup) ?_ (by with_unfolding_all rfl)
  refine wpAny_getItem_list_slice ht.isList (Heap.IsSliceOf.new _ vl vu vs) pl pu ps ne ?_ (by rw [List.size_toArray]; omega)
  obtain ⟨ys, rp, hm⟩ := vals_pick r (sliceRange (sliceBounds l u o its.toArray.size).1 (sliceBounds l u o its.toArray.size).2.1 (sliceBounds l u o its.toArray.size).2.2)
  have hsz := slicePick_size_le its.toArray l u o
  unfold slicePick at hsz ⊢
  rw [List.size_toArray, ← rp.length, List.size_toArray, ← hlen] at hsz
  refine ⟨.ref _, _, I5.laid (t' := s4.toks) (o := .lst ys) (fun b ob q => Heap.get?_push_of_some _ q) (Nat.le_refl _) ?_, rfl, q _ ys (I5.hok.fresh (Nat.le_refl _)) hm hsz⟩
  exact ⟨Nat.le_trans hsz hz, _, 0, rp, Heap.get?_push_size _ rfl⟩
theorem ints_of {ns : List Int} : ∀ {ys : List V}, (∀ y, y ∈ ys → y ∈ ns.map V.int) → ∃ ms : List Int, ys = ms.map V.int
  | [], _ => ⟨[], rfl⟩
  | y :: ys, h => by
    obtain ⟨ms, e⟩ := ints_of (ys := ys) fun z hz => h z (List.mem_cons_of_mem _ hz)
    obtain ⟨n, _, en⟩ := List.mem_map.mp (h y List.mem_cons_self)
    exact ⟨n :: ms, by rw [e, ← en]; rfl⟩
section
variable {B : Bs} {K : Fr} {ρ : En} {Q : R → En → Prop}
theorem we_sl3S {j : Nat} {ns : List Int} {t1 t2 t3 : TO} (hj : ρ[j]? = some (some (.scr ns))) (h : WO B K t1 ρ fun _ ρ2 => WO B K t2 ρ2 fun _ ρ3 => WO B K t3 ρ3 fun st ρ4 => st ≠ some 0 ∧ ∀ ms : List Int, ms.length ≤ ns.length → Q (.new (ms.map .int)) ρ4) : WE B K (tSl3 K (tVar j) t1 t2 t3) ρ Q := fun F H σ E QQ k => by
  obtain ⟨v, e, a, hv, hs⟩ := E.sl j _ hj
  subst hv
  refine ⟨.ref a, e, h F H σ E _ fun lo F2 H2 ρ2 E2 e2 q2 => q2 F2 H2 σ E2 _ fun hi F3 H3 ρ3 E3 e3 q3 => q3 F3 H3 σ E3 _ fun st F4 H4 ρ4 E4 e4 ⟨ne, q4⟩ => ⟨ne, a, ns.map V.int, rfl, E4.fh.sl (((e2.trans e3).trans e4).sl hs), fun p ys hp hm hl => ?_⟩⟩
  obtain ⟨ms, rfl⟩ := ints_of hm
  rw [List.length_map, List.length_map] at hl
  obtain ⟨E5, r5⟩ := new_ok E4 hp (RpA.of_ints (K := K) (F := F4) ms)
  exact k _ _ F4 _ ρ4 E5 ((e2.trans e3).trans e4) r5 (q4 ms hl)
end
/-! ### text * int -/
def srepS (x : Str) (n : Int) : Str := if n < 1 then Str.empty else if (n == 1 || x.length == 0) = true then x else ⟨(List.replicate n.toNat x.cps).foldl (· ++ ·) #[]⟩
def rSrep : R2 := fun x y H Q => ∃ a n, x = .str a ∧ y = .int n ∧ -1000000 ≤ n ∧ n ≤ 1000000 ∧ a.length * n.toNat ≤ 1000000 ∧ Q (.str (srepS a n)) H
theorem foldl_size (x : Array Nat) : ∀ (k : Nat) (a : Array Nat), ((List.replicate k x).foldl (· ++ ·) a).size = a.size + x.size * k
  | 0, a => by simp
  | k + 1, a => by
    rw [List.replicate_succ, List.foldl_cons, foldl_size x k, Array.size_append, Nat.mul_succ]
    omega
theorem srepS_len (x : Str) (n : Int) : (srepS x n).length = x.length * n.toNat := by
  unfold srepS
  split
  · rename_i h
    rw [show n.toNat = 0 by omega, Nat.mul_zero]
    rfl
  · split
    · rename_i h
      rw [Bool.or_eq_true, beq_iff_eq, beq_iff_eq] at h
      rcases h with h | h
      · rw [h]; exact (Nat.mul_one _).symm
      · rw [h, Nat.zero_mul]
    · show Array.size _ = _
      rw [foldl_size]
      show 0 + x.length * n.toNat = _
      omega
theorem op_srep {X : Cx} : OpR X (binaryOp .Mult) rSrep := by
  intro pins s σ H x y v u Q I rx ry h
  obtain ⟨a, n, rfl, rfl, h1, h2, h3, q⟩ := h
  obtain ⟨t, rfl⟩ := rx
  obtain ⟨t', rfl⟩ := ry
  have hl := srepS_len a n
  refine P.mul_str (by rw [decide_eq_false (by omega), decide_eq_false (by omega)]; rfl) (fun k1 _ hc => ?_) (fun _ _ => ?_) ?_
  · have hn : 0 < n := by omega
    have e1 : (a.length : Int) ≤ 1000000 := by
      have : a.length * 1 ≤ a.length * n.toNat := Nat.mul_le_mul_left _ (by omega)
      omega
    have e2 : (1000000 : Int) ≤ (2 ^ 63 - 1) / n := by
      rw [Int.le_ediv_iff_mul_le hn]
      have : (1000000 : Int) * n ≤ 1000000 * 1000000 := Int.mul_le_mul_of_nonneg_left h2 (by omega)
      omega
    omega
  · unfold Builtin.Str.tooLong
    exact decide_eq_false (by have : (1000000 : Nat) ≤ sizeLine := by decide
                              omega)
  · unfold srepS at q
    split
    · rename_i k
      rw [if_pos k] at q
      exact ⟨by decide, .str _, H, I.tok _, ⟨_, rfl⟩, q⟩
    · rename_i k
      rw [if_neg k] at q
      split
      · rename_i k2
        rw [if_pos k2] at q
        exact ⟨.str _, H, I, ⟨_, rfl⟩, q⟩
      · rename_i k2
        rw [if_neg k2] at q
        refine ⟨?_, .str _, H, I.tok _, ⟨_, rfl⟩, q⟩
        have e := foldl_size a.cps n.toNat #[]
        have e2 : (1000000 : Nat) ≤ sizeLine := by decide
        show Array.size _ ≤ sizeLine
        rw [e]
        show 0 + a.length * n.toNat ≤ sizeLine
        omega
section
variable {B : Bs} {K : Fr} {ρ : En} {ta tb : TE} {QD : PyData → En → Prop}
theorem wd_srep (h : WD B K ta ρ fun x ρ1 => ∃ a, x = .str a ∧ WD B K tb ρ1 fun y ρ2 => ∃ n, y = .int n ∧ (-1000000 ≤ n ∧ n ≤ 1000000 ∧ a.length * n.toNat ≤ 1000000) ∧ QD (.str (srepS a n)) ρ2) : WD B K (tOp rSrep ta tb) ρ QD := fun F H σ E QQ k =>
  h F H σ E _ fun v x F1 H1 ρ1 E1 e1 rv ⟨a, hx, q⟩ => q F1 H1 σ E1 _ fun u y F2 H2 ρ2 E2 e2 ru ⟨n, hy, ⟨h1, h2, h3⟩, q2⟩ => by
    subst hx hy
    cases rv; cases ru
    exact ⟨a, n, rfl, rfl, h1, h2, h3, k _ _ F2 H2 ρ2 E2 (e1.trans e2) (.str _) q2⟩
theorem wd_dnew (q : QD (.dict []) ρ) : WD B K tDNewK ρ QD := fun F H σ E QQ k p hp => by
  obtain ⟨E2, e2⟩ := E.alloc (o := .dK []) hp
  exact k _ _ _ _ ρ E2 e2 (.dct upd_same) q
end
end SV

set_option maxHeartbeats 1000000
namespace SV
open PySem PySem.Spec L2
open Evl (Ex)
/-! ### places within an own thing -/
def OT.kids : OT → List OT
  | .d _ => []
  | .lst _ ts => ts
  | .tup _ ts => ts
  | .dct _ _ ts => ts
def OT.setKids : OT → List OT → OT
  | .d x, _ => .d x
  | .lst a _, ts => .lst a ts
  | .tup a _, ts => .tup a ts
  | .dct a ks _, ts => .dct a ks ts
def OT.adr : OT → List Addr
  | .d _ => []
  | .lst a _ => [a]
  | .tup a _ => [a]
  | .dct a _ _ => [a]
def OT.at : List Nat → OT → Option OT
  | [], t => some t
  | i :: π, t => match t.kids[i]? with
    | some u => OT.at π u
    | none => none
def OT.put : List Nat → OT → OT → OT
  | [], _, n => n
  | i :: π, t, n => match t.kids[i]? with
    | some u => t.setKids (t.kids.set i (OT.put π u n))
    | none => t
/-- what reading a place gives: data, or where the thing stands -/
def OT.r : OT → R
  | .d x => .d x
  | .lst a _ => .raw (.ref a)
  | .tup a _ => .raw (.ref a)
  | .dct a _ _ => .raw (.ref a)
/-- what taking it out gives -/
def OT.rO : OT → R
  | .d x => .d x
  | .lst a ts => .deep (.lst a ts)
  | .tup a ts => .deep (.tup a ts)
  | .dct a ks ts => .deep (.dct a ks ts)
/-- a value as a part of an own thing -/
def Kid : R → (OT → Prop) → Prop
  | .d x, k => k (.d x)
  | .new xs, k => ∀ b, k (.lst b (xs.map .d))
  | .deep t, k => k t
  | .newD ks xs, k => ∀ b, k (.dct b ks (xs.map .d))
  | _, _ => False
section
variable {K : Fr} {F H H' : Hp}
theorem OT.fp_eq : ∀ t : OT, t.fp = t.adr ++ fps t.kids
  | .d _ => rfl
  | .lst _ _ => rfl
  | .tup _ _ => rfl
  | .dct _ _ _ => rfl
theorem fps_mid (pre post : List OT) (c : OT) : fps (pre ++ c :: post) = fps pre ++ (c.fp ++ fps post) := by rw [fps_app]; rfl
theorem kid_split {ts : List OT} {i : Nat} {c : OT} (h : ts[i]? = some c) : ∃ pre post, ts = pre ++ c :: post ∧ ∀ c', ts.set i c' = pre ++ c' :: post := by
  have e := split_at h
  have hl : (ts.take i).length = i := by
    rw [List.length_take]
    have := (List.getElem?_eq_some_iff.mp h).1
    omega
  refine ⟨ts.take i, ts.drop (i + 1), e, fun c' => ?_⟩
  have e2 : ts.set i c' = (ts.take i ++ c :: ts.drop (i + 1)).set (ts.take i).length c' := by rw [← e, hl]
  rw [e2, List.set_append_right _ _ (Nat.le_refl _), Nat.sub_self]
  rfl
theorem OtA.mid : ∀ {pre post : List OT} {c : OT} {vs : List V}, OtA K F H vs (pre ++ c :: post) → ∃ v1 w v2, vs = v1 ++ w :: v2 ∧ OtA K F H v1 pre ∧ Ot K F H w c ∧ OtA K F H v2 post
  | [], _, _, _, .cons h r => ⟨[], _, _, rfl, .nil, h, r⟩
  | _ :: _, _, _, _, .cons h r => by
    obtain ⟨v1, w, v2, rfl, h1, h2, h3⟩ := OtA.mid r
    exact ⟨_ :: v1, w, v2, rfl, .cons h h1, h2, h3⟩
theorem Ot.kid {v : V} {t u : OT} {i : Nat} (h : Ot K F H v t) (e : t.kids[i]? = some u) : (∃ w, Ot K F H w u) ∧ ∀ a, a ∈ u.fp → a ∈ fps t.kids := by
  refine ⟨?_, fun a ha => fp_sub (List.mem_of_getElem? e) ha⟩
  cases h with
  | d _ => cases e
  | lst _ _ h => obtain ⟨w, _, q⟩ := h.get' e; exact ⟨w, q⟩
  | tup _ _ h => obtain ⟨w, _, q⟩ := h.get' e; exact ⟨w, q⟩
  | dct _ _ _ h => obtain ⟨w, _, q⟩ := h.get' e; exact ⟨w, q⟩
theorem Ot.at : ∀ (π : List Nat) {t u : OT} {v : V}, Ot K F H v t → t.at π = some u → (∃ w, Ot K F H w u) ∧ ∀ a, a ∈ u.fp → a ∈ t.fp
  | [], t, u, v, h, e => by cases e; exact ⟨⟨v, h⟩, fun _ h => h⟩
  | i :: π, t, u, v, h, e => by
    unfold OT.at at e
    cases q : t.kids[i]? with
    | none => rw [q] at e; cases e
    | some c =>
      rw [q] at e
      obtain ⟨⟨w, hw⟩, hs⟩ := h.kid q
      obtain ⟨k1, k2⟩ := Ot.at π hw e
      exact ⟨k1, fun a ha => by rw [OT.fp_eq]; exact List.mem_append_right _ (hs a (k2 a ha))⟩
theorem nd_kid {t u : OT} {i : Nat} (nd : t.fp.Nodup) (e : t.kids[i]? = some u) : u.fp.Nodup := by
  rw [OT.fp_eq] at nd
  obtain ⟨pre, post, e1, _⟩ := kid_split e
  rw [e1, fps_mid] at nd
  exact (List.nodup_append.mp (List.nodup_append.mp (List.nodup_append.mp nd).2.1).2.1).1
theorem nd_at : ∀ (π : List Nat) {t u : OT}, t.fp.Nodup → t.at π = some u → u.fp.Nodup
  | [], t, u, nd, e => by cases e; exact nd
  | i :: π, t, u, nd, e => by
    unfold OT.at at e
    cases q : t.kids[i]? with
    | none => rw [q] at e; cases e
    | some c => rw [q] at e; exact nd_at π (nd_kid nd q) e
theorem ot_put {u u' : OT} : ∀ (π : List Nat) {t : OT} {v : V}, Ot K F H v t → t.fp.Nodup → t.at π = some u → (∀ w, Ot K F H w u → Ot K F H' w u') → (∀ b, b ∈ t.fp → b ∉ u.fp → H' b = H b) → Ot K F H' v (t.put π u')
  | [], t, v, h, nd, e, hu, hk => by cases e; exact hu v h
  | i :: π, t, v, h, nd, e, hu, hk => by
    unfold OT.at at e
    unfold OT.put
    cases q : t.kids[i]? with
    | none => rw [q] at e; cases e
    | some c =>
      rw [q] at e
      have ndc := nd_kid nd q
      have hsub : ∀ b, b ∈ u.fp → b ∈ c.fp := by
        obtain ⟨⟨w, hw⟩, _⟩ := h.kid q
        exact (Ot.at π hw e).2
      obtain ⟨pre, post, e1, e2⟩ := kid_split q
      have nd' := nd
      rw [OT.fp_eq, e1, fps_mid] at nd'
      obtain ⟨_, n2, n3⟩ := List.nodup_append.mp nd'
      obtain ⟨_, n5, n6⟩ := List.nodup_append.mp n2
      obtain ⟨_, _, n9⟩ := List.nodup_append.mp n5
      have key : ∀ {vs : List V}, OtA K F H vs t.kids → OtA K F H' vs (t.kids.set i (OT.put π c u')) := fun {vs} ha => by
        show OtA K F H' vs (t.kids.set i (OT.put π c u'))
        rw [e2]
        rw [e1] at ha
        obtain ⟨v1, w, v2, rfl, h1, h2, h3⟩ := ha.mid
        have hin : ∀ b, b ∈ fps (pre ++ c :: post) → b ∈ t.fp := fun b hb => by rw [OT.fp_eq, e1]; exact List.mem_append_right _ hb
        refine (h1.mono (Ex.refl F) fun b hb => ⟨(h1.live hb).1, hk b (hin b (by rw [fps_mid]; exact List.mem_append_left _ hb)) fun z => n6 b hb b (List.mem_append_left _ (hsub b z)) rfl⟩).append (.cons ?_ (h3.mono (Ex.refl F) fun b hb => ⟨(h3.live hb).1, hk b (hin b (by rw [fps_mid]; exact List.mem_append_right _ (List.mem_append_right _ hb))) fun z => n9 b (hsub b z) b hb rfl⟩))
        exact ot_put π h2 ndc e hu fun b hb => hk b (hin b (by rw [fps_mid]; exact List.mem_append_right _ (List.mem_append_left _ hb)))
      have top : ∀ a, a ∈ t.adr → H' a = H a := fun a ha => hk a (by rw [OT.fp_eq]; exact List.mem_append_left _ ha) fun z => n3 a ha a (List.mem_append_right _ (List.mem_append_left _ (hsub a z))) rfl
      cases h with
      | d _ => cases q
      | lst h1 h2 h3 => exact .lst h1 ((top _ (List.mem_singleton.mpr rfl)).trans h2) (key h3)
      | tup h1 h2 h3 => exact .tup h1 ((top _ (List.mem_singleton.mpr rfl)).trans h2) (key h3)
      | dct h1 h2 hl h3 => exact .dct h1 ((top _ (List.mem_singleton.mpr rfl)).trans h2) (by rw [hl]; exact (List.length_set ..).symm) (key h3)
theorem fp_put {u u' : OT} : ∀ (π : List Nat) {t : OT}, t.fp.Nodup → t.at π = some u → u'.fp.Nodup → (∀ b, b ∈ u'.fp → b ∈ u.fp ∨ b ∉ t.fp) → (t.put π u').fp.Nodup ∧ ∀ b, b ∈ (t.put π u').fp → (b ∈ t.fp ∧ b ∉ u.fp) ∨ b ∈ u'.fp
  | [], t, nd, e, nu, hb => ⟨nu, fun b h => .inr h⟩
  | i :: π, t, nd, e, nu, hb => by
    unfold OT.at at e
    unfold OT.put
    cases q : t.kids[i]? with
    | none => rw [q] at e; cases e
    | some c =>
      rw [q] at e
      have ndc := nd_kid nd q
      obtain ⟨pre, post, e1, e2⟩ := kid_split q
      have nd' := nd
      rw [OT.fp_eq, e1, fps_mid] at nd'
      have hin : ∀ b, b ∈ t.fp ↔ b ∈ t.adr ∨ b ∈ fps pre ∨ b ∈ c.fp ∨ b ∈ fps post := fun b => by
        rw [OT.fp_eq, e1, fps_mid]
        simp only [List.mem_append]
      have hsub : ∀ {π : List Nat} {c u : OT}, c.at π = some u → ∀ b, b ∈ u.fp → b ∈ c.fp := by
        intro π
        induction π with
        | nil => intro c u e b h; cases e; exact h
        | cons j π ih =>
          intro c u e b h
          unfold OT.at at e
          cases q : c.kids[j]? with
          | none => rw [q] at e; cases e
          | some d =>
            rw [q] at e
            rw [OT.fp_eq]
            exact List.mem_append_right _ (fp_sub (List.mem_of_getElem? q) (ih e b h))
      have su := hsub e
      obtain ⟨k1, k2⟩ := fp_put π ndc e nu fun b h => (hb b h).elim .inl fun n => .inr fun z => n ((hin b).mpr (.inr (.inr (.inl z))))
      obtain ⟨n1, n2, n3⟩ := List.nodup_append.mp nd'
      obtain ⟨n4, n5, n6⟩ := List.nodup_append.mp n2
      obtain ⟨n7, n8, n9⟩ := List.nodup_append.mp n5
      have out : ∀ b, b ∈ (OT.put π c u').fp → b ∈ c.fp ∨ b ∉ t.fp := fun b h => (k2 b h).elim (fun z => .inl z.1) fun z => (hb b z).elim (fun y => .inl (su b y)) .inr
      have e3 : (t.setKids (t.kids.set i (OT.put π c u'))).fp = t.adr ++ (fps pre ++ ((OT.put π c u').fp ++ fps post)) := by
        rw [e2]
        cases t with
        | d _ => cases q
        | _ => exact congrArg (_ :: ·) (fps_mid _ _ _)
      show (t.setKids (t.kids.set i (OT.put π c u'))).fp.Nodup ∧ ∀ b, b ∈ (t.setKids (t.kids.set i (OT.put π c u'))).fp → _
      rw [e3]
      have inT1 : ∀ b, b ∈ t.adr → b ∈ t.fp := fun b h => (hin b).mpr (.inl h)
      have inT2 : ∀ b, b ∈ fps pre → b ∈ t.fp := fun b h => (hin b).mpr (.inr (.inl h))
      have inT3 : ∀ b, b ∈ fps post → b ∈ t.fp := fun b h => (hin b).mpr (.inr (.inr (.inr h)))
      refine ⟨List.nodup_append.mpr ⟨n1, List.nodup_append.mpr ⟨n4, List.nodup_append.mpr ⟨k1, n8, fun a ha b hb' z => ?_⟩, fun a ha b hb' z => ?_⟩, fun a ha b hb' z => ?_⟩, fun b h => ?_⟩
      · subst z
        rcases out a ha with k | k
        · exact n9 a k a hb' rfl
        · exact k (inT3 a hb')
      · subst z
        rcases List.mem_append.mp hb' with h | h
        · rcases out a h with k | k
          · exact n6 a ha a (List.mem_append_left _ k) rfl
          · exact k (inT2 a ha)
        · exact n6 a ha a (List.mem_append_right _ h) rfl
      · subst z
        rcases List.mem_append.mp hb' with h | h
        · exact n3 a ha a (List.mem_append_left _ h) rfl
        · rcases List.mem_append.mp h with h | h
          · rcases out a h with k | k
            · exact n3 a ha a (List.mem_append_right _ (List.mem_append_left _ k)) rfl
            · exact k (inT1 a ha)
          · exact n3 a ha a (List.mem_append_right _ (List.mem_append_right _ h)) rfl
      · rcases List.mem_append.mp h with h | h
        · exact .inl ⟨inT1 b h, fun z => n3 b h b (List.mem_append_right _ (List.mem_append_left _ (su b z))) rfl⟩
        · rcases List.mem_append.mp h with h | h
          · exact .inl ⟨inT2 b h, fun z => n6 b h b (List.mem_append_left _ (su b z)) rfl⟩
          · rcases List.mem_append.mp h with h | h
            · rcases k2 b h with ⟨k, k'⟩ | k
              · exact .inl ⟨(hin b).mpr (.inr (.inr (.inl k))), k'⟩
              · exact .inr k
            · exact .inl ⟨inT3 b h, fun z => n9 b (su b z) b h rfl⟩
theorem fps_set_sub : ∀ {ts : List OT} {n : Nat} {x : PyData} {b : Addr}, b ∈ fps (ts.set n (.d x)) → b ∈ fps ts
  | [], _, _, _, h => h
  | t :: ts, 0, _, _, h => List.mem_append_right _ h
  | t :: ts, n + 1, _, _, h => (List.mem_append.mp (show _ ∈ t.fp ++ fps (ts.set n _) from h)).elim (List.mem_append_left _) fun k => List.mem_append_right _ (fps_set_sub k)
theorem fps_set_nd : ∀ {ts : List OT} {n : Nat} {x : PyData}, (fps ts).Nodup → (fps (ts.set n (.d x))).Nodup
  | [], _, _, h => h
  | t :: ts, 0, _, h => (List.nodup_append.mp h).2.1
  | t :: ts, n + 1, _, h => by
    obtain ⟨h1, h2, h3⟩ := List.nodup_append.mp h
    exact List.nodup_append.mpr ⟨h1, fps_set_nd h2, fun a ha b hb => h3 a ha b (fps_set_sub hb)⟩
end
section
variable {B : Bs} {K : Fr} {F H : Hp} {σ : L2.St} {ρ : En} {te to ti : TE} {tr tl : TA} {Q : R → En → Prop} {QD : PyData → En → Prop} {Z : Zs}
/-- where a list within an own thing stands -/
theorem EnvOk.list_at (E : EnvOk B K F H σ ρ) {i : Nat} {t : OT} {π : List Nat} {a : Addr} {ts : List OT} (h : ρ[i]? = some (some (.deep t))) (hat : t.at π = some (.lst a ts)) :
    SFp σ ρ i a ∧ ∃ vs, H a = some (.lst vs) ∧ OtA K F H vs ts := by
  obtain ⟨v, e, s, nd⟩ := E.sl i _ h
  obtain ⟨⟨w, hw⟩, hs⟩ := Ot.at π s hat
  cases hw with
  | lst h1 h2 h3 => exact ⟨⟨_, v, h, e, hs a List.mem_cons_self⟩, _, h2, h3⟩
/-- a list within an own thing is written -/
theorem EnvOk.writeT (E : EnvOk B K F H σ ρ) {i : Nat} {t : OT} {π : List Nat} {a : Addr} {ts ts' : List OT} {ws : List V} (h : ρ[i]? = some (some (.deep t))) (np : NP B i) (hat : t.at π = some (.lst a ts))
    (hw : OtA K F H ws ts') (nd' : (fps ts').Nodup) (hf : ∀ b, b ∈ fps ts' → b ∈ fps ts ∨ (B.H0 b = none ∧ ∀ j, ¬ SFp σ ρ j b)) :
    EnvOk B K F (upd H a (.lst ws)) σ (ρ.set i (some (.deep (t.put π (.lst a ts'))))) := by
  obtain ⟨fa, vs, k2, k3⟩ := E.list_at h hat
  obtain ⟨v, e, s, nd⟩ := E.sl i _ h
  have ndu := nd_at π nd hat
  have ha : a ∉ fps ts' := fun z => by
    rcases hf a z with k | k
    · exact (List.nodup_cons.mp (show (a :: fps ts).Nodup from ndu)).1 k
    · exact k.2 i fa
  have hs := (Ot.at π s hat).2
  have fr : ∀ b, (B.H0 b = none ∧ ∀ j, ¬ SFp σ ρ j b) → b ∉ t.fp := fun b k z => k.2 i ⟨_, v, h, e, z⟩
  obtain ⟨p1, p2⟩ := fp_put (u' := .lst a ts') π nd hat (List.nodup_cons.mpr ⟨ha, nd'⟩) fun b hb => (List.mem_cons.mp hb).elim (fun z => .inl (by subst z; exact List.mem_cons_self)) fun z => (hf b z).elim (fun y => .inl (List.mem_cons_of_mem _ y)) fun y => .inr (fr b y)
  have s' : Ot K F (upd H a (.lst ws)) v (t.put π (.lst a ts')) := by
    refine ot_put π s nd hat (fun w hwu => ?_) fun b hb hn => upd_ne fun z => hn (by subst z; exact List.mem_cons_self)
    cases hwu with
    | lst h1 h2 h3 => exact .lst h1 upd_same (hw.mono (Ex.refl F) fun b hb => ⟨(hw.live hb).1, upd_ne fun z => ha (by rw [← z]; exact hb)⟩)
  refine E.put h e (E.st_write fa) ⟨s', p1⟩ (fun j b n hb => upd_ne fun z => n (E.sep j i b hb (by subst z; exact fa))) (fun b hb => ?_) (.inr (.inr np))
  rcases p2 b hb with ⟨k, _⟩ | k
  · exact .inl k
  · rcases List.mem_cons.mp k with z | k
    · subst z; exact .inl (hs b List.mem_cons_self)
    · rcases hf b k with k | k
      · exact .inl (hs b (List.mem_cons_of_mem _ k))
      · exact .inr k
/-- a value as a part -/
theorem kid_ok {v : V} {r : R} {k : OT → Prop} (rv : ROk B K F H σ ρ v r) (h : Kid r k) : ∃ u, Ot K F H v u ∧ u.fp.Nodup ∧ Free B σ ρ u.fp ∧ k u := by
  cases r with
  | d x => exact ⟨.d x, .d rv, List.nodup_nil, (fun a h => nomatch h), h⟩
  | new xs =>
    obtain ⟨a, vs, rfl, k1, k2, k3, k4, k5⟩ := rv
    have e : (OT.lst a (xs.map .d)).fp = [a] := congrArg (a :: ·) (fps_map_d xs)
    exact ⟨.lst a (xs.map .d), .lst k1 k2 (.of_rp k3), by rw [e]; simp, by rw [e]; intro b hb; rw [List.mem_singleton.mp hb]; exact ⟨k4, k5⟩, h a⟩
  | scr ns => exact h.elim
  | raw w => exact h.elim
  | deep t => exact ⟨t, rv.1, rv.2.1, rv.2.2, h⟩
  | newD ks xs =>
    obtain ⟨a, vs, rfl, k1, k2, hl, k3, k4, k5⟩ := rv
    have e : (OT.dct a ks (xs.map .d)).fp = [a] := congrArg (a :: ·) (fps_map_d xs)
    exact ⟨.dct a ks (xs.map .d), .dct k1 k2 (by rw [List.length_map]; exact hl) (.of_rp k3), by rw [e]; simp, by rw [e]; intro b hb; rw [List.mem_singleton.mp hb]; exact ⟨k4, k5⟩, h a⟩
/-! ### rules -/
/-- an own list, by its place -/
theorem ws_deep {t : TS} {j : Nat} {xs : List PyData} (hj : ρ[j]? = some (some (.own xs))) (np : NP B j) (h : ∀ a, WS B K t (ρ.set j (some (.deep (.lst a (xs.map .d))))) Z) : WS B K t ρ Z := fun F H σ E D ok => by
  obtain ⟨a, vs, e, k1, k2, k3⟩ := E.own_at hj
  refine h a F H σ (E.put hj e E.st ⟨.lst k1 k2 (.of_rp k3), ?_⟩ (fun _ _ _ _ => rfl) (fun b hb => .inl ?_) (.inr (.inr np))) D ok
  · show (a :: fps (xs.map .d)).Nodup
    rw [fps_map_d]; simp
  · have : b ∈ a :: fps (xs.map .d) := hb
    rw [fps_map_d] at this
    rw [List.mem_singleton.mp this]
    rfl
theorem ws_flat {t : TS} {j : Nat} {a : Addr} {xs : List PyData} (hj : ρ[j]? = some (some (.deep (.lst a (xs.map .d))))) (np : NP B j) (h : WS B K t (ρ.set j (some (.own xs))) Z) : WS B K t ρ Z := fun F H σ E D ok => by
  obtain ⟨v, e, s, nd⟩ := E.sl j _ hj
  cases s with
  | lst k1 k2 k3 => exact h F H σ (E.put hj e E.st ⟨a, _, rfl, k1, k2, k3.to_rp⟩ (fun _ _ _ _ => rfl) (fun b hb => .inl (by cases (show V.ref a = V.ref b from hb); exact List.mem_cons_self)) (.inr (.inr np))) D ok
/-- a slot's own thing, read -/
theorem we_ptr {j : Nat} {t : OT} (hj : ρ[j]? = some (some (.deep t))) (q : Q t.r ρ) : WE B K (tVar j) ρ Q := fun F H σ E QQ k => by
  obtain ⟨v, e, s, nd⟩ := E.sl j _ hj
  refine ⟨v, e, k v t.r F H ρ E (Ex.refl F) ?_ q⟩
  cases s with
  | d h => exact h
  | lst _ _ _ => exact rfl
  | tup _ _ _ => exact rfl
  | dct _ _ _ _ => exact rfl
theorem OtA.atI {vs : List V} {ts : List OT} {i : Int} {u : OT} (r : OtA K F H vs ts) (h : atI ts i = some u) : ∃ v, L2.atI vs i = some v ∧ Ot K F H v u := by
  unfold L2.atI at h ⊢
  rw [r.length]
  cases e : ixN ts.length i with
  | none => rw [e] at h; cases h
  | some j =>
    rw [e] at h
    exact r.get' (i := j) h
/-- p[i], p a place -/
theorem we_ixP (h : WE B K to ρ fun r ρ1 => ∃ a, r = .raw (.ref a) ∧ WD B K ti ρ1 fun y ρ2 => ∃ (j : Nat) (t : OT) (π : List Nat) (ts : List OT) (i : Int) (u : OT), y = .int i ∧ ρ2[j]? = some (some (.deep t)) ∧ (t.at π = some (.lst a ts) ∨ t.at π = some (.tup a ts)) ∧ atI ts i = some u ∧ Q u.r ρ2) : WE B K (tOp (rIx K) to ti) ρ Q := fun F H σ E QQ k =>
  h F H σ E _ fun v r F1 H1 ρ1 E1 e1 rv ⟨a, hr, q⟩ => by
    subst hr
    cases (show v = .ref a from rv)
    refine q F1 H1 σ E1 _ fun w y F2 H2 ρ2 E2 e2 ry ⟨j, t, π, ts, i, u, hy, hj, hat, hu, q2⟩ => ?_
    subst hy
    cases ry
    obtain ⟨v, e, s, nd⟩ := E2.sl j _ hj
    have fin : ∀ {vs : List V}, OtA K F2 H2 vs ts → ∃ w, atI vs i = some w ∧ QQ w H2 := fun {vs} hs => by
      obtain ⟨w, hw, ow⟩ := hs.atI hu
      refine ⟨w, hw, k w u.r F2 H2 ρ2 E2 (e1.trans e2) ?_ q2⟩
      cases ow with
      | d h => exact h
      | lst _ _ _ => exact rfl
      | tup _ _ _ => exact rfl
      | dct _ _ _ _ => exact rfl
    rcases hat with hat | hat
    · obtain ⟨⟨w, hw⟩, _⟩ := Ot.at π s hat
      cases hw with
      | lst h1 h2 h3 =>
        obtain ⟨w, hw, q3⟩ := fin h3
        exact .inl ⟨a, _, i, w, rfl, rfl, .inl (.inl h2), hw, q3⟩
    · obtain ⟨⟨w, hw⟩, _⟩ := Ot.at π s hat
      cases hw with
      | tup h1 h2 h3 =>
        obtain ⟨w, hw, q3⟩ := fin h3
        exact .inr (.inl ⟨a, _, i, w, rfl, rfl, .inl (.inl h2), hw, q3⟩)
/-- p.append(e), p a place -/
theorem we_appendP (h : WE B K to ρ fun r ρ1 => ∃ a, r = .raw (.ref a) ∧ (∃ (j : Nat) (t : OT) (π : List Nat) (ts : List OT), ρ1[j]? = some (some (.deep t)) ∧ t.at π = some (.lst a ts)) ∧ WE B K te ρ1 fun r2 ρ2 => ∃ (j : Nat) (t : OT) (π : List Nat) (ts : List OT), NP B j ∧ ρ2[j]? = some (some (.deep t)) ∧ t.at π = some (.lst a ts) ∧ ts.length < lim ∧
      Kid r2 fun u => Q (.d .none) (ρ2.set j (some (.deep (t.put π (.lst a (ts ++ [u]))))))) : WE B K (tBM K "list" rAppend to (tCons te tNil)) ρ Q := fun F H σ E QQ k =>
  h F H σ E _ fun v r F1 H1 ρ1 E1 e1 rv ⟨a, hr, ⟨j0, t0, π0, ts0, hj0, hat0⟩, q⟩ => by
    subst hr
    cases (show v = .ref a from rv)
    obtain ⟨_, vs0, hv0, _⟩ := E1.list_at hj0 hat0
    refine ⟨.inl ⟨rfl, vs0, .inl (.inl hv0)⟩, q F1 H1 σ E1 _ fun w r2 F2 H2 ρ2 E2 e2 rw' ⟨j, t, π, ts, np, hj, hat, hz, kd⟩ => ?_⟩
    obtain ⟨u, ou, ndu, fu, q2⟩ := kid_ok rw' kd
    obtain ⟨fa, vs, hv, os⟩ := E2.list_at hj hat
    obtain ⟨v, e, s, nd⟩ := E2.sl j _ hj
    have ndl : (a :: fps ts).Nodup := nd_at π nd hat
    have hs := (Ot.at π s hat).2
    have E3 := E2.writeT hj np hat (ts' := ts ++ [u]) (os.append (.cons ou .nil)) (by
        rw [fps_app]
        refine List.nodup_append.mpr ⟨(List.nodup_cons.mp ndl).2, ?_, fun b hb c hc z => ?_⟩
        · show (u.fp ++ []).Nodup
          rw [List.append_nil]; exact ndu
        · subst z
          have hc' : b ∈ u.fp ++ [] := hc
          rw [List.append_nil] at hc'
          exact (fu b hc').2 j ⟨_, v, hj, e, hs b (List.mem_cons_of_mem _ hb)⟩) fun b hb => by
        rw [fps_app] at hb
        rcases List.mem_append.mp hb with h | h
        · exact .inl h
        · have h' : b ∈ u.fp ++ [] := h
          rw [List.append_nil] at h'
          exact .inr (fu b h')
    exact ⟨a, vs, w, rfl, rfl, hv, by rw [os.length]; exact lim_lt hz, k _ (.d .none) F2 _ _ E3 (e1.trans e2) Rp.non q2⟩
/-- p.pop(), p a place -/
theorem we_popP (h : WE B K to ρ fun r ρ1 => ∃ a, r = .raw (.ref a) ∧ ∃ (j : Nat) (t : OT) (π : List Nat) (ts : List OT) (u : OT), NP B j ∧ ρ1[j]? = some (some (.deep t)) ∧ t.at π = some (.lst a ts) ∧ ts[ts.length - 1]? = some u ∧ Q u.rO (ρ1.set j (some (.deep (t.put π (.lst a ts.dropLast)))))) : WE B K (tBM0 K "list" rPop to) ρ Q := fun F H σ E QQ k =>
  h F H σ E _ fun v r F1 H1 ρ1 E1 e1 rv ⟨a, hr, j, t, π, ts, u, np, hj, hat, hu, q⟩ => by
    subst hr
    cases (show v = .ref a from rv)
    obtain ⟨fa, vs, hv, os⟩ := E1.list_at hj hat
    obtain ⟨v, e, s, nd⟩ := E1.sl j _ hj
    have ndl : (a :: fps ts).Nodup := nd_at π nd hat
    have hs := (Ot.at π s hat).2
    have sp : ts = ts.dropLast ++ [u] := by
      have hne : ts ≠ [] := fun z => by rw [z] at hu; cases hu
      have e2 := List.dropLast_concat_getLast hne
      rw [List.getLast_eq_getElem] at e2
      rw [List.getElem?_eq_getElem (by have := List.length_pos_iff.mpr hne; omega)] at hu
      rw [Option.some.inj hu] at e2
      exact e2.symm
    have e3 : fps ts = fps ts.dropLast ++ u.fp := by
      have e4 := congrArg fps sp
      rw [fps_app] at e4
      rw [e4]
      show fps ts.dropLast ++ (u.fp ++ []) = _
      rw [List.append_nil]
    have ndl' := ndl
    rw [e3] at ndl'
    obtain ⟨na, nf⟩ := List.nodup_cons.mp ndl'
    obtain ⟨n1, n2, n3⟩ := List.nodup_append.mp nf
    have E3 := E1.writeT hj np hat (ts' := ts.dropLast) os.dropLast n1 fun b hb => .inl (by rw [e3]; exact List.mem_append_left _ hb)
    obtain ⟨w, hw, ow⟩ := os.get' hu
    rw [← os.length] at hw
    refine ⟨.inl ⟨rfl, vs, .inl (.inl hv)⟩, a, vs, w, rfl, rfl, hv, hw, k w u.rO F1 _ _ E3 e1 ?_ q⟩
    have inu : ∀ b, b ∈ u.fp → b ∈ t.fp := fun b hb => hs b (List.mem_cons_of_mem _ (by rw [e3]; exact List.mem_append_right _ hb))
    have p2 := (fp_put (u' := .lst a ts.dropLast) π nd hat (List.nodup_cons.mpr ⟨fun z => na (List.mem_append_left _ z), n1⟩) fun b hb => (List.mem_cons.mp hb).elim (fun z => .inl (by subst z; exact List.mem_cons_self)) fun z => .inl (List.mem_cons_of_mem _ (by rw [e3]; exact List.mem_append_left _ z))).2
    have fr : Free B σ (ρ1.set j (some (.deep (t.put π (.lst a ts.dropLast))))) u.fp := fun b hb => by
      refine ⟨(E1.mine j b ⟨_, v, hj, e, inu b hb⟩).elim id fun z => absurd z (np b), fun i ⟨m, w, q1, q2, q3⟩ => ?_⟩
      rcases set_cases q1 with ⟨rfl, _, e5⟩ | ⟨n, e5⟩
      · cases e5
        rcases p2 b q3 with ⟨_, k2⟩ | k2
        · exact k2 (List.mem_cons_of_mem _ (by rw [e3]; exact List.mem_append_right _ hb))
        · rcases List.mem_cons.mp k2 with z | z
          · subst z; exact na (List.mem_append_right _ hb)
          · exact n3 b z b hb rfl
      · exact n (E1.sep i j b ⟨m, w, e5, q2, q3⟩ ⟨_, v, hj, e, inu b hb⟩)
    have ow' : Ot K F1 (upd H1 a (.lst vs.dropLast)) w u := ow.mono (Ex.refl F1) fun b hb => ⟨(ow.live hb).1, upd_ne fun z => by subst z; exact na (List.mem_append_right _ hb)⟩
    cases u with
    | d x => cases ow' with | d h => exact h
    | lst b us => exact ⟨ow', n2, fr⟩
    | tup b us => exact ⟨ow', n2, fr⟩
    | dct b ks us => exact ⟨ow', n2, fr⟩
/-- p[i] = e, p a place -/
theorem ws_setItemP (h : WD B K te ρ fun x ρ1 => WE B K to ρ1 fun r ρ2 => ∃ a, r = .raw (.ref a) ∧ WD B K ti ρ2 fun y ρ3 => ∃ (j : Nat) (t : OT) (π : List Nat) (ts : List OT) (i : Int) (n : Nat), NP B j ∧ ρ3[j]? = some (some (.deep t)) ∧ t.at π = some (.lst a ts) ∧ y = .int i ∧ ixN ts.length i = some n ∧
      Z.nx (ρ3.set j (some (.deep (t.put π (.lst a (ts.set n (.d x)))))))) : WS B K (tAsg te (gSub to ti rSetL)) ρ Z := fun F H σ E D ok =>
  h F H σ E _ fun x0 x F1 H1 ρ1 E1 e1 rx q1 => q1 F1 H1 σ E1 _ fun v r F2 H2 ρ2 E2 e2 rv ⟨a, hr, q2⟩ => by
    subst hr
    cases (show v = .ref a from rv)
    refine q2 F2 H2 σ E2 _ fun w y F3 H3 ρ3 E3 e3 ry ⟨j, t, π, ts, i, n, np, hj, hat, hy, hn, q3⟩ => ?_
    subst hy
    cases ry
    obtain ⟨fa, vs, hv, os⟩ := E3.list_at hj hat
    obtain ⟨v, e, s, nd⟩ := E3.sl j _ hj
    have ndl : (a :: fps ts).Nodup := nd_at π nd hat
    have E4 := E3.writeT hj np hat (ts' := ts.set n (.d x)) (os.set n (.d (Rp.mono (e2.trans e3) rx))) (fps_set_nd (List.nodup_cons.mp ndl).2) fun b hb => .inl (fps_set_sub hb)
    exact ⟨a, vs, i, n, rfl, rfl, hv, by rw [os.length]; exact hn, ok.nx F3 _ _ _ E4 ((e1.trans e2).trans e3) q3⟩
/-- len of a place -/
theorem wd_lenP (h : WE B K to ρ fun r ρ1 => ∃ a, r = .raw (.ref a) ∧ ∃ (j : Nat) (t : OT) (π : List Nat) (ts : List OT), ρ1[j]? = some (some (.deep t)) ∧ t.at π = some (.lst a ts) ∧ QD (.int ts.length) ρ1) : WD B K (tCB (rLen K) (tCons to tNil)) ρ QD := fun F H σ E QQ k =>
  h F H σ E _ fun v r F1 H1 ρ1 E1 e1 rv ⟨a, hr, j, t, π, ts, hj, hat, q⟩ => by
    subst hr
    cases (show v = .ref a from rv)
    obtain ⟨fa, vs, hv, os⟩ := E1.list_at hj hat
    exact ⟨.ref a, vs.length, rfl, .inl ⟨vs, .inl (.inl hv), rfl⟩, k _ _ F1 H1 ρ1 E1 e1 (by rw [os.length]; exact .int _) q⟩
theorem wd_lenT {j : Nat} {a : Addr} {ts : List OT} (hj : ρ[j]? = some (some (.deep (.lst a ts)))) (q : QD (.int ts.length) ρ) : WD B K (tCB (rLen K) (tCons (tVar j) tNil)) ρ QD :=
  wd_lenP (we_ptr hj ⟨a, rfl, j, _, [], ts, hj, rfl, q⟩)
/-- == and != of an own thing -/
theorem deep_dp {F H : Hp} {σ : L2.St} (E : EnvOk B K F H σ ρ) {i : Nat} {t : OT} (h : ρ[i]? = some (some (.deep t))) (hd : t.isD = true) (n : noD t.data = true) {v : V} (hv : σ[i]? = some (some v)) : Dp K H v t.data := by
  obtain ⟨w, e, s, _⟩ := E.sl i _ h
  rw [hv] at e
  cases e
  exact Rp.dp (Ex.refl H) (s.rp E.fh hd fun _ _ => rfl) n
theorem wd_eqT {i : Nat} {t0 : OT} {tb : TE} (hi : ρ[i]? = some (some (.deep t0))) (h : WD B K tb ρ fun y ρ2 => ∃ t, ρ2[i]? = some (some (.deep t)) ∧ t.isD = true ∧ (noD t.data = true ∧ noD y = true ∧ SeqAt.shaped t.data = true ∧ SeqAt.shaped y = true) ∧ QD (.bool (PyData.eqv t.data y)) ρ2) : WD B K (tOp (rEqD K) (tVar i) tb) ρ QD := fun F H σ E QQ k => by
  obtain ⟨v, e, _⟩ := E.sl i _ hi
  exact ⟨v, e, h F H σ E _ fun u y F2 H2 ρ2 E2 e2 ru ⟨t, hx, hd, ⟨n1, n2, s1, s2⟩, q2⟩ => ⟨_, y, deep_dp E2 hx hd n1 e, Rp.dp E2.fh ru n2, s1, s2, k _ _ F2 H2 ρ2 E2 e2 (.bl _) q2⟩⟩
theorem wd_neT {i : Nat} {t0 : OT} {tb : TE} (hi : ρ[i]? = some (some (.deep t0))) (h : WD B K tb ρ fun y ρ2 => ∃ t, ρ2[i]? = some (some (.deep t)) ∧ t.isD = true ∧ (noD t.data = true ∧ noD y = true ∧ SeqAt.shaped t.data = true ∧ SeqAt.shaped y = true) ∧ QD (.bool (!PyData.eqv t.data y)) ρ2) : WD B K (tOp (rNeD K) (tVar i) tb) ρ QD := fun F H σ E QQ k => by
  obtain ⟨v, e, _⟩ := E.sl i _ hi
  exact ⟨v, e, h F H σ E _ fun u y F2 H2 ρ2 E2 e2 ru ⟨t, hx, hd, ⟨n1, n2, s1, s2⟩, q2⟩ => ⟨_, y, deep_dp E2 hx hd n1 e, Rp.dp E2.fh ru n2, s1, s2, k _ _ F2 H2 ρ2 E2 e2 (.bl _) q2⟩⟩
/-- == and != of a place within, with data -/
theorem place_dp {F H : Hp} {σ : L2.St} (E : EnvOk B K F H σ ρ) {i : Nat} {t u : OT} {π : List Nat} (h : ρ[i]? = some (some (.deep t))) (hat : t.at π = some u) (hd : u.isD = true) (n : noD u.data = true) : ∃ w, Ot K F H w u ∧ Dp K H w u.data := by
  obtain ⟨w, e, s, _⟩ := E.sl i _ h
  obtain ⟨⟨z, hz⟩, _⟩ := Ot.at π s hat
  exact ⟨z, hz, Rp.dp (Ex.refl H) (hz.rp E.fh hd fun _ _ => rfl) n⟩
theorem wd_neP {tb : TE} (h : WE B K to ρ fun r ρ1 => ∃ a, r = .raw (.ref a) ∧ WD B K tb ρ1 fun y ρ2 => ∃ (j : Nat) (t : OT) (π : List Nat) (ts : List OT), ρ2[j]? = some (some (.deep t)) ∧ t.at π = some (.lst a ts) ∧ areD ts = true ∧ (noD (.list (datas ts)) = true ∧ noD y = true ∧ SeqAt.shaped (.list (datas ts)) = true ∧ SeqAt.shaped y = true) ∧ QD (.bool (!PyData.eqv (.list (datas ts)) y)) ρ2) : WD B K (tOp (rNeD K) to tb) ρ QD := fun F H σ E QQ k =>
  h F H σ E _ fun v r F1 H1 ρ1 E1 e1 rv ⟨a, hr, q⟩ => by
    subst hr
    cases (show v = .ref a from rv)
    refine q F1 H1 σ E1 _ fun w y F2 H2 ρ2 E2 e2 ry ⟨j, t, π, ts, hj, hat, hd, ⟨n1, n2, s1, s2⟩, q2⟩ => ?_
    obtain ⟨w', ow, dw⟩ := place_dp E2 hj hat (show (OT.lst a ts).isD = true from hd) n1
    cases ow
    exact ⟨_, y, dw, Rp.dp E2.fh ry n2, s1, s2, k _ _ F2 H2 ρ2 E2 (e1.trans e2) (.bl _) q2⟩
theorem wd_eqP {tb : TE} (h : WE B K to ρ fun r ρ1 => ∃ a, r = .raw (.ref a) ∧ WD B K tb ρ1 fun y ρ2 => ∃ (j : Nat) (t : OT) (π : List Nat) (ts : List OT), ρ2[j]? = some (some (.deep t)) ∧ t.at π = some (.lst a ts) ∧ areD ts = true ∧ (noD (.list (datas ts)) = true ∧ noD y = true ∧ SeqAt.shaped (.list (datas ts)) = true ∧ SeqAt.shaped y = true) ∧ QD (.bool (PyData.eqv (.list (datas ts)) y)) ρ2) : WD B K (tOp (rEqD K) to tb) ρ QD := fun F H σ E QQ k =>
  h F H σ E _ fun v r F1 H1 ρ1 E1 e1 rv ⟨a, hr, q⟩ => by
    subst hr
    cases (show v = .ref a from rv)
    refine q F1 H1 σ E1 _ fun w y F2 H2 ρ2 E2 e2 ry ⟨j, t, π, ts, hj, hat, hd, ⟨n1, n2, s1, s2⟩, q2⟩ => ?_
    obtain ⟨w', ow, dw⟩ := place_dp E2 hj hat (show (OT.lst a ts).isD = true from hd) n1
    cases ow
    exact ⟨_, y, dw, Rp.dp E2.fh ry n2, s1, s2, k _ _ F2 H2 ρ2 E2 (e1.trans e2) (.bl _) q2⟩
/-! ### targets that take own things -/
def WGT (B : Bs) (K : Fr) (g : TGs) (ts : List OT) (ρ : En) (Q : En → Prop) : Prop := ∀ F H σ vs, EnvOk B K F H σ ρ → OtA K F H vs ts → (fps ts).Nodup → Free B σ ρ (fps ts) → ∀ QQ : L2.St → Hp → Prop, (∀ F' H' σ' ρ', EnvOk B K F' H' σ' ρ' → Ex F F' → Q ρ' → QQ σ' H') → g vs σ H QQ
theorem wgt_nil {q : En → Prop} (h : q ρ) : WGT B K gNil [] ρ q := fun F H σ vs E rv _ _ QQ k => by
  cases rv
  exact ⟨rfl, k F H σ ρ E (Ex.refl F) h⟩
theorem free_set {B : Bs} {σ : L2.St} {ρ : En} {as : List Addr} {i : Nat} {v : V} {l : L} (h : Free B σ ρ as) (n : ∀ a, a ∈ as → ¬ LFp v l a) : Free B (σ.set i (some v)) (ρ.set i (some l)) as := fun a ha => by
  refine ⟨(h a ha).1, fun j ⟨m, w, e1, e2, e3⟩ => ?_⟩
  rcases set_cases e1 with ⟨rfl, hj, e⟩ | ⟨nj, e⟩
  · cases e
    rcases set_cases e2 with ⟨_, _, e'⟩ | ⟨nj, _⟩
    · cases e'; exact n a ha e3
    · exact nj rfl
  · rw [List.getElem?_set_ne (Ne.symm nj)] at e2
    exact (h a ha).2 j ⟨m, w, e, e2, e3⟩
theorem wgt_d {i : Nat} {gs : TGs} {x : PyData} {ts : List OT} {q : En → Prop} (hp : NP B i) (h : WGT B K gs ts (ρ.set i (some (.d x))) q) : WGT B K (gCons (gName i) gs) (.d x :: ts) ρ q := fun F H σ vs E rv nd fr QQ k => by
  cases rv with
  | cons r1 r2 =>
    cases r1 with
    | d r1 => exact ⟨_, _, rfl, h F H _ _ (E.setD (l := .d x) r1 rfl hp) r2 nd (free_set fr fun a _ => LFp.no rfl) QQ fun F' H' σ' ρ' E' e' q' => k F' H' σ' ρ' E' e' q'⟩
theorem wgt_o {i : Nat} {gs : TGs} {u : OT} {ts : List OT} {q : En → Prop} (hp : NP B i) (h : WGT B K gs ts (ρ.set i (some (.deep u))) q) : WGT B K (gCons (gName i) gs) (u :: ts) ρ q := fun F H σ vs E rv nd fr QQ k => by
  cases rv with
  | cons r1 r2 =>
    obtain ⟨n1, n2, n3⟩ := List.nodup_append.mp (show (u.fp ++ fps ts).Nodup from nd)
    exact ⟨_, _, rfl, h F H _ _ (E.setN (l := .deep u) ⟨r1, n1⟩ (fun a ha => fr a (List.mem_append_left _ ha)) hp) r2 n2 (free_set (fun a ha => fr a (List.mem_append_right _ ha)) fun a ha z => n3 a z a ha rfl) QQ fun F' H' σ' ρ' E' e' q' => k F' H' σ' ρ' E' e' q'⟩
theorem ws_asgGT {n : Nat} {gs : TGs} (h : WE B K te ρ fun r ρ' => ∃ (p : Addr) (ts : List OT), r = .deep (.tup p ts) ∧ ts.length = n ∧ WGT B K gs ts ρ' Z.nx) : WS B K (tAsg te (gTup K n gs)) ρ Z := fun F H σ E D ok =>
  h F H σ E _ fun v r F' H' ρ' E' ef rv ⟨p, ts, hr, hn, q⟩ => by
    subst hr
    obtain ⟨o, nd, fr⟩ := rv
    cases o with
    | @tup _ vs _ k1 k2 k3 =>
      exact ⟨p, vs, rfl, .inl (.inl k2), by rw [k3.length]; exact hn, q F' H' σ vs E' k3 (List.nodup_cons.mp nd).2 (fun a ha => fr a (List.mem_cons_of_mem _ ha)) _ fun F2 H2 σ2 ρ2 E2 e2 q2 => ok.nx F2 H2 σ2 ρ2 E2 (ef.trans e2) q2⟩
/-! a value that becomes a part -/
def WK (B : Bs) (K : Fr) (te : TE) (ρ : En) (Q : OT → En → Prop) : Prop := WE B K te ρ fun r ρ' => Kid r fun u => Q u ρ'
variable {QK : OT → En → Prop}
theorem wk_e (h : WE B K te ρ fun r ρ' => Kid r fun u => QK u ρ') : WK B K te ρ QK := h
theorem wk_d (h : WD B K te ρ fun x ρ' => QK (.d x) ρ') : WK B K te ρ QK := we_d h
theorem wk_take {j : Nat} {xs : List PyData} (hj : ρ[j]? = some (some (.own xs))) (np : NP B j) (q : ∀ a, QK (.lst a (xs.map .d)) (ρ.set j none)) : WK B K (tVar j) ρ QK := we_take hj np q
theorem wk_takeT {j : Nat} {t : OT} (hj : ρ[j]? = some (some (.deep t))) (np : NP B j) (q : QK t (ρ.set j none)) : WK B K (tVar j) ρ QK := we_takeT hj np q
theorem we_appendV {j : Nat} {a : Addr} {ts : List OT} (hj : ρ[j]? = some (some (.deep (.lst a ts)))) (np : NP B j) (h : WK B K te ρ fun u ρ2 => ∃ ts', ρ2[j]? = some (some (.deep (.lst a ts'))) ∧ ts'.length < lim ∧ Q (.d .none) (ρ2.set j (some (.deep (.lst a (ts' ++ [u])))))) : WE B K (tBM K "list" rAppend (tVar j) (tCons te tNil)) ρ Q :=
  we_appendP (we_ptr hj ⟨a, rfl, ⟨j, _, [], ts, hj, rfl⟩, we_mono h fun r ρ2 k => by
    have ex : ∃ ts', ρ2[j]? = some (some (.deep (.lst a ts'))) ∧ ts'.length < lim := by
      cases r with
      | d x => obtain ⟨ts', q1, q2, _⟩ := k; exact ⟨ts', q1, q2⟩
      | new xs => obtain ⟨ts', q1, q2, _⟩ := k 0; exact ⟨ts', q1, q2⟩
      | deep t => obtain ⟨ts', q1, q2, _⟩ := k; exact ⟨ts', q1, q2⟩
      | newD ks xs => obtain ⟨ts', q1, q2, _⟩ := k 0; exact ⟨ts', q1, q2⟩
      | scr ns => exact k.elim
      | raw w => exact k.elim
    obtain ⟨ts', q1, q2⟩ := ex
    have fin : ∀ u, (∃ ts', ρ2[j]? = some (some (.deep (.lst a ts'))) ∧ ts'.length < lim ∧ Q (.d .none) (ρ2.set j (some (.deep (.lst a (ts' ++ [u])))))) → Q (.d .none) (ρ2.set j (some (.deep (OT.put [] (.lst a ts') (.lst a (ts' ++ [u])))))) := fun u ⟨ts2, e1, _, e3⟩ => by
      rw [q1] at e1
      cases e1
      exact e3
    refine ⟨j, _, [], ts', np, q1, rfl, q2, ?_⟩
    cases r with
    | d x => exact fin _ k
    | new xs => exact fun b => fin _ (k b)
    | deep t => exact fin _ k
    | newD ks xs => exact fun b => fin _ (k b)
    | scr ns => exact k.elim
    | raw w => exact k.elim⟩)
theorem wd_ixT {j : Nat} {a : Addr} {ts0 : List OT} {tb : TE} (hj : ρ[j]? = some (some (.deep (.lst a ts0)))) (h : WD B K tb ρ fun y ρ2 => ∃ ts i x, ρ2[j]? = some (some (.deep (.lst a ts))) ∧ y = .int i ∧ atI ts i = some (.d x) ∧ QD x ρ2) : WD B K (tOp (rIx K) (tVar j) tb) ρ QD :=
  wd_e (we_ixP (we_ptr hj ⟨a, rfl, wd_mono h fun y ρ2 ⟨ts, i, x, h1, h2, h3, q⟩ => ⟨j, _, [], ts, i, _, h2, h1, .inl rfl, h3, x, rfl, q⟩⟩))
def tAsgX (te : TE) (g : TG) : TS := fun D σ H => True ∧ tAsg te g D σ H
theorem ws_asgGX {n : Nat} {gs : TGs} (h : WE B K te ρ fun r ρ' => ∃ (p : Addr) (ts : List OT), r = .deep (.tup p ts) ∧ ts.length = n ∧ WGT B K gs ts ρ' Z.nx) : WS B K (tAsgX te (gTup K n gs)) ρ Z := fun F H σ E D ok => ⟨trivial, ws_asgGT h F H σ E D ok⟩
/-! ### displays of own things -/
def WXs (B : Bs) (K : Fr) (ta : TA) (ρ : En) (Q : List OT → En → Prop) : Prop := ∀ F H σ, EnvOk B K F H σ ρ → ∀ QQ : List V → Hp → Prop, (∀ vs ts F' H' ρ', EnvOk B K F' H' σ ρ' → Ex F F' → OtA K F' H' vs ts → (fps ts).Nodup → Free B σ ρ' (fps ts) → Q ts ρ' → QQ vs H') → ta σ H QQ
variable {QX : List OT → En → Prop}
theorem wx_nil (q : QX [] ρ) : WXs B K tNil ρ QX := fun F H σ E QQ k => k [] [] F H ρ E (Ex.refl F) .nil List.nodup_nil (fun a h => nomatch h) q
theorem wx_d (h : WD B K te ρ fun x ρ1 => WXs B K tr ρ1 fun ts ρ2 => QX (.d x :: ts) ρ2) : WXs B K (tCons te tr) ρ QX := fun F H σ E QQ k =>
  h F H σ E _ fun v x F1 H1 ρ1 E1 e1 rv q => q F1 H1 σ E1 _ fun vs ts F3 H3 ρ3 E3 e3 os nd fr q3 => k (v :: vs) (.d x :: ts) F3 H3 ρ3 E3 (e1.trans e3) (.cons (.d (Rp.mono e3 rv)) os) nd fr q3
theorem wx_o {p : Option Nat} (hp : B.pin.map Prod.fst = p) (h : WE B K te ρ fun r ρ1 => Kid r fun u => ∀ B' : Bs, B'.pin.map Prod.fst = p → WXs B' K tr ρ1 fun ts ρ2 => QX (u :: ts) ρ2) : WXs B K (tCons te tr) ρ QX := fun F H σ E QQ k =>
  h F H σ E _ fun v r F1 H1 ρ1 E1 e1 rv kd => by
    obtain ⟨u, ou, ndu, fu, q⟩ := kid_ok rv kd
    let B' : Bs := ⟨F1, fun a => if a ∈ u.fp then H1 a else B.H0 a, B.pin⟩
    have yes : ∀ a, a ∈ u.fp → B'.H0 a = H1 a := fun a ha => if_pos ha
    have no : ∀ a, a ∉ u.fp → B'.H0 a = B.H0 a := fun a ha => if_neg ha
    have nof : ∀ i a, SFp σ ρ1 i a → a ∉ u.fp := fun i a h z => (fu a z).2 i h
    have pinf : ∀ i a, B.pin = some (i, a) → a ∉ u.fp := fun i a e z => by
      obtain ⟨q1, q2⟩ := E1.pin i a e
      rcases q2 with ⟨⟨xs, q2⟩, _⟩ | ⟨⟨ks, xs, q2⟩, _⟩
      · exact nof i a ⟨_, _, q2, q1, rfl⟩ z
      · exact nof i a ⟨_, _, q2, q1, rfl⟩ z
    have E1' : EnvOk B' K F1 H1 σ ρ1 := by
      refine ⟨⟨Ex.refl F1, E1.fh, fun a o e n => ?_, fun a h => ?_, fun a h _ => h⟩, E1.len, E1.sl, E1.sep, fun i a h => ?_, fun i a e => ?_⟩
      · by_cases c : a ∈ u.fp
        · rw [yes a c] at e; exact e
        · rw [no a c] at e; exact E1.st.h0 a o e n
      · by_cases c : a ∈ u.fp
        · rw [yes a c] at h; exact h
        · rw [no a c] at h; exact E1.st.th a h
      · rw [no a (nof i a h)]; exact E1.mine i a h
      · rw [no a (pinf i a e)]; exact E1.pin i a e
    refine q B' hp F1 H1 σ E1' _ fun vs ts F2 H2 ρ2 E2 e2 os nd fr q2 => ?_
    have live : ∀ a, a ∈ u.fp → B'.H0 a ≠ none := fun a ha => by
      obtain ⟨_, o, e⟩ := ou.live ha
      rw [yes a ha, e]
      exact fun z => nomatch z
    have b0 : ∀ a, B'.H0 a = none → a ∉ u.fp ∧ B.H0 a = none := fun a h => by
      have c : a ∉ u.fp := fun z => live a z h
      exact ⟨c, by rw [← no a c]; exact h⟩
    have E2' : EnvOk B K F2 H2 σ ρ2 := by
      refine ⟨⟨E1.st.f0.trans E2.st.f0, E2.st.fh, fun a o e n => ?_, fun a h => ?_, fun a h1 h2 => ?_⟩, E2.len, E2.sl, E2.sep, fun i a h => ?_, fun i a e => ?_⟩
      · have c : a ∉ u.fp := fun z => by rw [(fu a z).1] at e; cases e
        exact E2.st.h0 a o (by rw [no a c]; exact e) n
      · have c : a ∉ u.fp := fun z => h (fu a z).1
        exact E2.st.th a (by rw [no a c]; exact h)
      · have c : a ∉ u.fp := fun z => h2 (fu a z).1
        exact E2.st.nf a (E1.st.nf a h1 h2) (by rw [no a c]; exact h2)
      · rcases E2.mine i a h with k | k
        · exact .inl (b0 a k).2
        · exact .inr k
      · obtain ⟨q1, q2⟩ := E2.pin i a e
        rw [no a (pinf i a e)] at q2
        exact ⟨q1, q2⟩
    have keep : ∀ a, a ∈ u.fp → F2 a = none ∧ H2 a = H1 a := fun a ha => by
      obtain ⟨k1, o, k2⟩ := ou.live ha
      refine ⟨E2.st.nf a k1 (live a ha), ?_⟩
      rw [k2]
      exact E2.st.h0 a o (by rw [yes a ha]; exact k2) fun i z => pinf i a z ha
    refine k (v :: vs) (u :: ts) F2 H2 ρ2 E2' (e1.trans e2) (.cons (ou.mono e2 keep) os) ?_ ?_ q2
    · refine List.nodup_append.mpr ⟨ndu, nd, fun a ha b hb z => ?_⟩
      subst z
      exact live a ha (fr a hb).1
    · intro a ha
      rcases List.mem_append.mp ha with ha | ha
      · refine ⟨(fu a ha).1, fun i h => ?_⟩
        rcases E2.mine i a h with k | k
        · exact live a ha k
        · exact pinf i a k ha
      · exact ⟨(b0 a (fr a ha).1).2, (fr a ha).2⟩
theorem wx_var {i : Nat} {x : PyData} (h : ρ[i]? = some (some (.d x))) (q : WXs B K tr ρ fun ts ρ2 => QX (.d x :: ts) ρ2) : WXs B K (tCons (tVar i) tr) ρ QX := wx_d (wd_var h q)
theorem wx_str {s : Str} (q : WXs B K tr ρ fun ts ρ2 => QX (.d (.str s) :: ts) ρ2) : WXs B K (tCons (tC (.str s)) tr) ρ QX := wx_d (wd_str q)
theorem wx_int {s : Int} (q : WXs B K tr ρ fun ts ρ2 => QX (.d (.int s) :: ts) ρ2) : WXs B K (tCons (tC (.int s)) tr) ρ QX := wx_d (wd_int q)
theorem wx_take {p : Option Nat} (hp : B.pin.map Prod.fst = p) {j : Nat} {xs : List PyData} (hj : ρ[j]? = some (some (.own xs))) (np : NP B j) (q : ∀ a (B' : Bs), B'.pin.map Prod.fst = p → WXs B' K tr (ρ.set j none) fun ts ρ2 => QX (.lst a (xs.map .d) :: ts) ρ2) : WXs B K (tCons (tVar j) tr) ρ QX := wx_o hp (we_take hj np q)
theorem wx_takeT {p : Option Nat} (hp : B.pin.map Prod.fst = p) {j : Nat} {t : OT} (hj : ρ[j]? = some (some (.deep t))) (np : NP B j) (q : ∀ (B' : Bs), B'.pin.map Prod.fst = p → WXs B' K tr (ρ.set j none) fun ts ρ2 => QX (t :: ts) ρ2) : WXs B K (tCons (tVar j) tr) ρ QX := wx_o hp (we_takeT hj np q)
def tTupX (t : TA) : TE := fun σ H Q => True ∧ tTup t σ H Q
def tLstX (t : TA) : TE := fun σ H Q => True ∧ tLst t σ H Q
theorem we_nodeX {a : Addr} {F H : Hp} {σ : L2.St} (E : EnvOk B K F H σ ρ) {p : Addr} (hp : H p = none) {vs : List V} {ts : List OT} {o : HO} {t : OT} (ht : t.fp = p :: fps ts) (os : OtA K F H vs ts) (nd : (fps ts).Nodup) (fr : Free B σ ρ (fps ts)) (mk : OtA K F (upd H p o) vs ts → Ot K F (upd H p o) (.ref p) t) :
    EnvOk B K F (upd H p o) σ ρ ∧ ROk B K F (upd H p o) σ ρ (.ref p) (.deep t) := by
  have np : p ∉ fps ts := fun z => by
    obtain ⟨_, o', e⟩ := os.live z
    rw [hp] at e; cases e
  refine ⟨E.allocO hp, mk (os.mono (Ex.refl F) fun b hb => ⟨(os.live hb).1, upd_ne fun z => np (by rw [← z]; exact hb)⟩), by rw [ht]; exact List.nodup_cons.mpr ⟨np, nd⟩, fun b hb => ?_⟩
  rw [ht] at hb
  rcases List.mem_cons.mp hb with rfl | hb
  · exact ⟨E.h0p hp, fun i => E.fr hp i⟩
  · exact fr b hb
theorem we_tupX (h : WXs B K tl ρ fun ts ρ' => ts.length ≤ lim ∧ ∀ p, Q (.deep (.tup p ts)) ρ') : WE B K (tTupX tl) ρ Q := fun F H σ E QQ k => ⟨trivial,
  h F H σ E _ fun vs ts F1 H1 ρ1 E1 e1 os nd fr ⟨hz, q⟩ => ⟨by rw [os.length]; exact lim_le hz, fun p hp => by
    obtain ⟨E2, r2⟩ := we_nodeX (a := p) E1 hp (o := .tup vs) (t := .tup p ts) rfl os nd fr fun o => .tup (E1.fh.free hp) upd_same o
    exact k _ (.deep (.tup p ts)) F1 _ ρ1 E2 e1 r2 (q p)⟩⟩
theorem we_lstX (h : WXs B K tl ρ fun ts ρ' => ts.length ≤ lim ∧ ∀ p, Q (.deep (.lst p ts)) ρ') : WE B K (tLstX tl) ρ Q := fun F H σ E QQ k => ⟨trivial,
  h F H σ E _ fun vs ts F1 H1 ρ1 E1 e1 os nd fr ⟨hz, q⟩ => ⟨by rw [os.length]; exact lim_le hz, fun p hp => by
    obtain ⟨E2, r2⟩ := we_nodeX (a := p) E1 hp (o := .lst vs) (t := .lst p ts) rfl os nd fr fun o => .lst (E1.fh.free hp) upd_same o
    exact k _ (.deep (.lst p ts)) F1 _ ρ1 E2 e1 r2 (q p)⟩⟩
end
theorem ps_asgX {X : Cx} {st : Stmt} {te : TE} {g : TG} (h : PS X st (tAsg te g)) : PS X st (tAsgX te g) := ⟨fun pins s σ H D I hh => h.run pins s σ H D I hh.2⟩
theorem pe_tupX {X : Cx} {es : List Expr} {k : Nat} {pos : Pos} {t : TA} (h : PE X (.Tuple es k pos) (tTup t)) : PE X (.Tuple es k pos) (tTupX t) := ⟨fun pins s σ H Q I hh => h.run pins s σ H Q I hh.2⟩
theorem pe_lstX {X : Cx} {e : Expr} {t : TA} (h : PE X e (tLst t)) : PE X e (tLstX t) := ⟨fun pins s σ H Q I hh => h.run pins s σ H Q I hh.2⟩
theorem slc_list {xs : List PyData} {lo hi : Option Int} {k : R → Prop} (h : k (.new (cutD xs lo hi))) : Slc (.list xs) lo hi k := h
theorem slc_tup {xs : List PyData} {lo hi : Option Int} {k : R → Prop} (h : k (.d (.tuple (cutD xs lo hi)))) : Slc (.tuple xs) lo hi k := h
theorem slc_str {z : Str} {lo hi : Option Int} {k : R → Prop} (hz : z.length ≤ lim) (h : k (.d (.str (cutS z lo hi)))) : Slc (.str z) lo hi k := ⟨hz, h⟩
theorem toD_deep {t : OT} (h : t.isD = true) : (R.deep t).toD = some t.data := by
  unfold R.toD
  simp only [h, if_true]
theorem toL_of {r : R} {x : PyData} (h : r.toD = some x) : r.toL = some (.d x) := by
  cases r with
  | d y => cases h; rfl
  | new xs => cases h; rfl
  | scr ns => cases h
  | raw w => cases h
  | newD ks xs => cases h
  | deep t =>
    unfold R.toD at h
    unfold R.toL
    by_cases c : t.isD = true
    · simp only [c, if_true] at h ⊢
      cases h
      rfl
    · simp only [c] at h
      cases h
/-! a callee takes over what a slot owns -/
def tCallC (sp : Sp) (E : XK) (t : TA) : TE := fun σ H Q => (True ∧ True) ∧ tCall sp [] E t σ H Q
theorem pe_give {X : Cx} {e : Expr} {sp : Sp} {E : XK} {t : TA} (h : PE X e (tCall sp [] E t)) : PE X e (tCallC sp E t) := ⟨fun pins s σ H Q I hh => h.run pins s σ H Q I hh.2⟩
theorem we_callG {B : Bs} {K : Fr} {ρ : En} {ta : TA} {Q : R → En → Prop} {G : GF} {E : XK} (h : WA B K ta ρ fun as ρ1 => ∃ pre post j l l1 l2 Pe, as = pre ++ .own j :: post ∧ ρ1[j]? = some (some l) ∧ (∀ a, B.pin ≠ some (j, a)) ∧ argL pre = some l1 ∧ argL post = some l2 ∧ G (l1 ++ l :: l2) (fun r _ => Q r (ρ1.set j none)) Pe ∧ ∀ C, Pe C → EK B K E C) :
    WE B K (tCallC (SpG K none G) E ta) ρ Q := fun F H σ E0 QQ k => ⟨⟨trivial, trivial⟩, we_callC h F H σ E0 QQ k⟩
theorem wa_ownT {B : Bs} {K : Fr} {ρ : En} {tr : TA} {QA : List Ar → En → Prop} {j : Nat} {t : OT} (h : ρ[j]? = some (some (.deep t))) (q : WA B K tr ρ fun as ρ2 => QA (.own j :: as) ρ2) : WA B K (tCons (tVar j) tr) ρ QA := fun F H σ E QQ k => by
  obtain ⟨v, e, _⟩ := E.sl j _ h
  exact ⟨v, e, q F H σ E _ fun vs as F3 H3 ρ3 E3 e3 as' q3 => k _ _ F3 H3 ρ3 E3 e3 (.cons (a := .own j) e as') q3⟩
theorem wa_ownD {B : Bs} {K : Fr} {ρ : En} {tr : TA} {QA : List Ar → En → Prop} {j : Nat} {ks : List Key} {xs : List PyData} (h : ρ[j]? = some (some (.ownD ks xs))) (q : WA B K tr ρ fun as ρ2 => QA (.own j :: as) ρ2) : WA B K (tCons (tVar j) tr) ρ QA := fun F H σ E QQ k => by
  obtain ⟨v, e, _⟩ := E.sl j _ h
  exact ⟨v, e, q F H σ E _ fun vs as F3 H3 ρ3 E3 e3 as' q3 => k _ _ F3 H3 ρ3 E3 e3 (.cons (a := .own j) e as') q3⟩
/-! a callee that changes a new list that is handed in last -/
def WAN (B : Bs) (K : Fr) (ta : TA) (ρ : En) (Q : List PyData → List PyData → En → Prop) : Prop := ∀ F H σ, EnvOk B K F H σ ρ → ∀ QQ : List V → Hp → Prop, (∀ vs v ds xs F' H' ρ', EnvOk B K F' H' σ ρ' → Ex F F' → RpA K F' vs ds → ROk B K F' H' σ ρ' v (.new xs) → Q ds xs ρ' → QQ (vs ++ [v]) H') → ta σ H QQ
def tCallN (sp : Sp) (E : XK) (t : TA) : TE := fun σ H Q => ((True ∧ True) ∧ True) ∧ tCall sp [] E t σ H Q
theorem pe_tmp {X : Cx} {e : Expr} {sp : Sp} {E : XK} {t : TA} (h : PE X e (tCall sp [] E t)) : PE X e (tCallN sp E t) := ⟨fun pins s σ H Q I hh => h.run pins s σ H Q I hh.2⟩
section
variable {B : Bs} {K : Fr} {F F' H H' : Hp} {σ : L2.St} {ρ : En} {te : TE} {tr ta : TA} {Q : R → En → Prop} {QN : List PyData → List PyData → En → Prop}
theorem wan_last (h : WE B K te ρ fun r ρ' => ∃ xs, r = .new xs ∧ QN [] xs ρ') : WAN B K (tCons te tNil) ρ QN := fun F H σ E QQ k =>
  h F H σ E _ fun v r F1 H1 ρ1 E1 e1 rv ⟨xs, hr, q⟩ => by
    subst hr
    exact k [] v [] xs F1 H1 ρ1 E1 e1 .nil rv q
theorem wan_cons (h : WD B K te ρ fun x ρ1 => WAN B K tr ρ1 fun ds xs ρ2 => QN (x :: ds) xs ρ2) : WAN B K (tCons te tr) ρ QN := fun F H σ E QQ k =>
  h F H σ E _ fun v x F1 H1 ρ1 E1 e1 rv q => q F1 H1 σ E1 _ fun vs w ds xs F3 H3 ρ3 E3 e3 rs rw' q3 => k (v :: vs) w (x :: ds) xs F3 H3 ρ3 E3 (e1.trans e3) (.cons (Rp.mono e3 rv) rs) rw' q3
theorem EnvOk.stepX (E : EnvOk B K F H σ ρ) {p : Nat} {a : Addr} (ha : B.H0 a = none) (hn : ∀ i, ¬ SFp σ ρ i a) (hF : F a = none) (st : St1 ⟨F, H, some (p, a)⟩ F' H') : EnvOk B K F' H' σ ρ := by
  have ne : ∀ b o, b ≠ a → H b = some o → H' b = some o := fun b o n e => st.h0 b o e fun i z => n (Prod.mk.inj (Option.some.inj z)).2.symm
  refine ⟨⟨E.st.f0.trans st.f0, st.fh, fun b u e n => ?_, fun b hb => st.th b (E.st.th b hb), fun b h1 h2 => st.nf b (E.st.nf b h1 h2) (E.st.th b h2)⟩, E.len, E.sl_mono st.f0 fun i b h => ?_, E.sep, E.mine, E.pin⟩
  · exact ne b u (fun z => by rw [z, ha] at e; cases e) (E.st.h0 b u e n)
  · obtain ⟨k1, o, k2⟩ := E.live h
    have nb : b ≠ a := fun z => hn i (by rw [← z]; exact h)
    exact ⟨st.nf b k1 (by rw [show (⟨F, H, some (p, a)⟩ : Bs).H0 b = H b from rfl, k2]; exact fun z => nomatch z), (ne b o nb k2).trans k2.symm⟩
theorem we_callPN {G : GF} {E : XK} {p : Nat} (h : WAN B K ta ρ fun ds xs ρ1 => ∃ Pe, ds.length = p ∧ G (ds.map .d ++ [.own xs]) (fun r _ => Q r ρ1) Pe ∧ ∀ C, Pe C → EK B K E C) : WE B K (tCallN (SpG K (some p) G) E ta) ρ Q := fun F H σ E0 QQ k => ⟨⟨⟨trivial, trivial⟩, trivial⟩,
  h F H σ E0 _ fun vs v ds xs F1 H1 ρ1 E1 e1 rs rv ⟨Pe, hp, hG, hE⟩ => by
    show SpG K (some p) G ((vs ++ [v]) ++ []) H1 QQ E
    rw [List.append_nil]
    obtain ⟨a, cs, rfl, f1, f2, f3, f4, f5⟩ := rv
    have hu : vs.length = p := by rw [rs.length]; exact hp
    have pa : pinAt (some p) (vs ++ [.ref a]) = some (p, a) := pinAt_own hu
    have s1 : ∀ (i : Nat) (l : L), (ds.map L.d)[i]? = some l → (∃ v, vs[i]? = some v ∧ SlotOk K F1 H1 v l) ∧ l.pl = true := fun i l e => by
      rw [List.getElem?_map] at e
      cases q : ds[i]? with
      | none => rw [q] at e; cases e
      | some d =>
        rw [q] at e
        cases e
        obtain ⟨w, hw, rw'⟩ := rs.get' q
        exact ⟨⟨w, hw, rw'⟩, rfl⟩
    have A := args_own (p := p) (H0 := H1) (pin := some (p, a)) (v := .ref a) (l := .own xs) (l1 := ds.map L.d) (l2 := []) (ws := []) (by rw [List.length_map]; exact hp) E1.fh (fun b o e => e) (by rw [List.length_map]; exact rs.length) s1 rfl (fun i l e => by simp at e) ⟨a, cs, rfl, f1, f2, f3⟩ (fun b hb => .inr (by cases (show V.ref a = V.ref b from hb); rfl))
      (fun i b e => by cases e; exact ⟨rfl, rfl, .inl ⟨⟨xs, rfl⟩, cs, f2⟩⟩)
    have back : ∀ F' H', St1 ⟨F1, H1, some (p, a)⟩ F' H' → EnvOk B K F' H' σ ρ1 := fun F' H' st => E1.stepX f4 f5 f1 st
    unfold SpG
    rw [pa]
    refine ⟨F1, H1, ds.map L.d ++ [.own xs], fun r _ => Q r ρ1, Pe, ⟨by rw [pa]; exact A, by rw [pa]; rfl⟩, hG, fun v r F' H' ys st rv ow q => ?_, fun C F' H' ys st ow hC => hE C hC F' H' σ _ (back F' H' st)⟩
    exact k v r F' H' _ (back F' H' st) (e1.trans st.f0) (ret_ok (back F' H' st) E1.fr2 rv) q⟩
end
end SV

set_option maxHeartbeats 1000000
namespace SV
open PySem PySem.Spec L2
open Evl (Ex)
/-! ### own dicts of data: the keys, and what stands at each -/
instance memKey (k : Key) : (ks : List Key) → Decidable (k ∈ ks)
  | [] => .isFalse (fun h => nomatch h)
  | j :: ks => if e : k = j then .isTrue (by rw [e]; exact List.mem_cons_self) else match memKey k ks with
    | .isTrue h => .isTrue (List.mem_cons_of_mem _ h)
    | .isFalse h => .isFalse fun z => (List.mem_cons.mp z).elim e h
def getK {α : Type} : List Key → List α → Key → Option α
  | k :: ks, x :: xs, j => if k = j then some x else getK ks xs j
  | _, _, _ => none
def replK {α : Type} (ks : List Key) (xs : List α) (k : Key) (x : α) : List α := List.zipWith (fun j y => if j = k then x else y) ks xs
def putKs (ks : List Key) (k : Key) : List Key := if k ∈ ks then ks else ks ++ [k]
def putXs {α : Type} (ks : List Key) (xs : List α) (k : Key) (x : α) : List α := if k ∈ ks then replK ks xs k x else xs ++ [x]
section
variable {α : Type}
theorem getK_cons {k j : Key} {ks : List Key} {x : α} {xs : List α} : getK (k :: ks) (x :: xs) j = if k = j then some x else getK ks xs j := rfl
theorem getK_nil {xs : List α} {j : Key} : getK [] xs j = none := by unfold getK; rfl
theorem getK_none : ∀ {ks : List Key} {xs : List α} {k : Key}, k ∉ ks → getK ks xs k = none
  | [], _, _, _ => getK_nil
  | j :: ks, [], _, _ => by unfold getK; rfl
  | j :: ks, x :: xs, k, h => by
    rw [getK_cons, if_neg fun z => h (by rw [z]; exact List.mem_cons_self)]
    exact getK_none fun z => h (List.mem_cons_of_mem _ z)
theorem getK_some : ∀ {ks : List Key} {xs : List α} {k : Key}, k ∈ ks → ks.length = xs.length → ∃ x, getK ks xs k = some x
  | j :: ks, [], _, _, hl => by cases hl
  | j :: ks, x :: xs, k, h, hl => by
    rw [getK_cons]
    by_cases c : j = k
    · exact ⟨x, if_pos c⟩
    · rw [if_neg c]
      exact getK_some ((List.mem_cons.mp h).resolve_left fun z => c z.symm) (by simpa using hl)
theorem getK_in {ks : List Key} {xs : List α} {k : Key} {x : α} (h : getK ks xs k = some x) : k ∈ ks := Classical.byContradiction fun c => by rw [getK_none c] at h; cases h
theorem getK_app : ∀ {ks js : List Key} {xs ys : List α} {k : Key}, ks.length = xs.length → getK (ks ++ js) (xs ++ ys) k = if k ∈ ks then getK ks xs k else getK js ys k
  | [], js, [], ys, k, _ => by rw [if_neg (List.not_mem_nil)]; rfl
  | [], _, _ :: _, _, _, h => by cases h
  | _ :: _, _, [], _, _, h => by cases h
  | j :: ks, js, x :: xs, ys, k, h => by
    rw [List.cons_append, List.cons_append, getK_cons, getK_cons, getK_app (by simpa using h)]
    by_cases c : j = k
    · rw [if_pos c, if_pos c, if_pos (by rw [c]; exact List.mem_cons_self)]
    · rw [if_neg c, if_neg c]
      by_cases m : k ∈ ks
      · rw [if_pos m, if_pos (List.mem_cons_of_mem _ m)]
      · rw [if_neg m, if_neg fun z => m ((List.mem_cons.mp z).resolve_left fun y => c y.symm)]
theorem getK_repl {k : Key} {x : α} : ∀ {ks : List Key} {xs : List α} (j : Key), ks.length = xs.length → getK ks (replK ks xs k x) j = if k = j ∧ k ∈ ks then some x else getK ks xs j
  | [], _, j, _ => by rw [getK_nil, getK_nil, if_neg fun z => nomatch z.2]
  | _ :: _, [], _, h => by cases h
  | i :: ks, y :: xs, j, h => by
    show getK (i :: ks) ((if i = k then x else y) :: replK ks xs k x) j = _
    rw [getK_cons, getK_cons, getK_repl j (by simpa using h)]
    by_cases ij : i = j
    · rw [if_pos ij, if_pos ij]
      by_cases ik : i = k
      · rw [if_pos ik, if_pos ⟨ik.symm.trans ij, by rw [ik]; exact List.mem_cons_self⟩]
      · rw [if_neg ik, if_neg fun z => ik (ij.trans z.1.symm)]
    · rw [if_neg ij, if_neg ij]
      by_cases c : k = j ∧ k ∈ ks
      · rw [if_pos c, if_pos ⟨c.1, List.mem_cons_of_mem _ c.2⟩]
      · rw [if_neg c, if_neg fun z => c ⟨z.1, (List.mem_cons.mp z.2).resolve_left fun y => ij (y.symm.trans z.1)⟩]
theorem replK_len {k : Key} {x : α} {ks : List Key} {xs : List α} (h : ks.length = xs.length) : (replK ks xs k x).length = xs.length := by
  unfold replK
  rw [List.length_zipWith, h, Nat.min_self]
theorem put_len {k : Key} {x : α} {ks : List Key} {xs : List α} (h : ks.length = xs.length) : (putKs ks k).length = (putXs ks xs k x).length := by
  unfold putKs putXs
  by_cases c : k ∈ ks
  · rw [if_pos c, if_pos c, replK_len h]; exact h
  · rw [if_neg c, if_neg c, List.length_append, List.length_append, h]; rfl
theorem put_new {k : Key} {x : α} {ks : List Key} {xs : List α} (h : k ∉ ks) : putKs ks k = ks ++ [k] ∧ putXs ks xs k x = xs ++ [x] := ⟨if_neg h, if_neg h⟩
theorem getK_put {k : Key} {x : α} {ks : List Key} {xs : List α} (j : Key) (h : ks.length = xs.length) : getK (putKs ks k) (putXs ks xs k x) j = if k = j then some x else getK ks xs j := by
  unfold putKs putXs
  by_cases c : k ∈ ks
  · rw [if_pos c, if_pos c, getK_repl j h]
    by_cases e : k = j
    · rw [if_pos ⟨e, c⟩, if_pos e]
    · rw [if_neg fun z => e z.1, if_neg e]
  · rw [if_neg c, if_neg c, getK_app h]
    by_cases e : k = j
    · subst e
      rw [if_neg c, if_pos rfl, getK_cons, if_pos rfl]
    · rw [if_neg e, getK_cons, if_neg e, getK_nil]
      by_cases m : j ∈ ks
      · rw [if_pos m]
      · rw [if_neg m, getK_none m]
theorem mem_put {k j : Key} {ks : List Key} : j ∈ putKs ks k ↔ j = k ∨ j ∈ ks := by
  unfold putKs
  by_cases c : k ∈ ks
  · rw [if_pos c]
    exact ⟨.inr, fun h => h.elim (fun e => by rw [e]; exact c) id⟩
  · rw [if_neg c, List.mem_append, List.mem_singleton]
    exact Or.comm
end
/-! the layer's dicts -/
section
variable {K : Fr} {F H : Hp}
theorem valV_get : ∀ {ks : List Key} {vs : List V} {k : Key}, valV (ks.zip vs) k = getK ks vs k
  | [], _, _ => by rw [getK_nil]; rfl
  | _ :: _, [], _ => by unfold getK; rfl
  | j :: ks, v :: vs, k => by
    rw [List.zip_cons_cons, getK_cons]
    by_cases c : j = k
    · rw [if_pos c, valV_pos (p := (j, v)) c]
    · rw [if_neg c, valV_neg (p := (j, v)) c]
      exact valV_get
theorem RpA.getK : ∀ {ks : List Key} {vs : List V} {xs : List PyData} {k : Key}, RpA K F vs xs → (∀ x, getK ks xs k = some x → ∃ v, SV.getK ks vs k = some v ∧ Rp K F v x) ∧ (SV.getK ks xs k = none → SV.getK ks vs k = none)
  | [], _, _, _, _ => by rw [getK_nil]; exact ⟨(fun x h => nomatch h), fun _ => getK_nil⟩
  | _ :: _, [], _, _, .nil => ⟨(fun x h => by unfold SV.getK at h; cases h), fun _ => by unfold SV.getK; rfl⟩
  | j :: ks, v :: vs, _ :: xs, k, .cons h r => by
    rw [getK_cons, getK_cons]
    by_cases c : j = k
    · rw [if_pos c, if_pos c]
      exact ⟨(fun x e => by cases e; exact ⟨v, rfl, h⟩), fun e => nomatch e⟩
    · rw [if_neg c, if_neg c]
      exact RpA.getK r
theorem RpA.repl : ∀ {ks : List Key} {vs : List V} {xs : List PyData} {k : Key} {v : V} {x : PyData}, RpA K F vs xs → Rp K F v x → RpA K F (replK ks vs k v) (replK ks xs k x)
  | [], _, _, _, _, _, _, _ => .nil
  | _ :: _, [], _, _, _, _, .nil, _ => .nil
  | j :: ks, _ :: vs, _ :: xs, k, v, x, .cons h r, q => by
    show RpA K F ((if j = k then v else _) :: replK ks vs k v) ((if j = k then x else _) :: replK ks xs k x)
    by_cases c : j = k
    · rw [if_pos c, if_pos c]; exact .cons q (RpA.repl r q)
    · rw [if_neg c, if_neg c]; exact .cons h (RpA.repl r q)
theorem any_mem {ks : List Key} {vs : List V} {k : Key} (h : ks.length = vs.length) : ((ks.zip vs).any fun kv => decide (kv.1 = k)) = decide (k ∈ ks) := by
  rw [valV_any, valV_get]
  by_cases c : k ∈ ks
  · obtain ⟨x, e⟩ := getK_some c h
    rw [e, decide_eq_true c]
    rfl
  · rw [getK_none c, decide_eq_false c]
    rfl
theorem map_zip {ks : List Key} {vs : List V} {k : Key} {v : V} : (ks.zip vs).map (fun kv => if kv.1 = k then (kv.1, v) else kv) = ks.zip (replK ks vs k v) := by
  induction ks generalizing vs with
  | nil => rfl
  | cons j ks ih =>
    cases vs with
    | nil => rfl
    | cons y vs =>
      show (if j = k then (j, v) else (j, y)) :: (ks.zip vs).map _ = (j, if j = k then v else y) :: ks.zip (replK ks vs k v)
      rw [ih]
      by_cases c : j = k
      · rw [if_pos c, if_pos c]
      · rw [if_neg c, if_neg c]
theorem putK_zip {ks : List Key} {vs : List V} {k : Key} {v : V} (h : ks.length = vs.length) : putK (ks.zip vs) k v = (putKs ks k).zip (putXs ks vs k v) := by
  unfold putK putKs putXs
  rw [any_mem h]
  by_cases c : k ∈ ks
  · rw [if_pos (decide_eq_true c), if_pos c, if_pos c, map_zip]
  · rw [if_neg (by rw [decide_eq_false c]; exact fun z => nomatch z), if_neg c, if_neg c]
    rw [List.zip_append h]
    rfl
theorem RpA.put {ks : List Key} {vs : List V} {xs : List PyData} {k : Key} {v : V} {x : PyData} (r : RpA K F vs xs) (q : Rp K F v x) : RpA K F (putXs ks vs k v) (putXs ks xs k x) := by
  unfold putXs
  by_cases c : k ∈ ks
  · rw [if_pos c, if_pos c]; exact r.repl q
  · rw [if_neg c, if_neg c]; exact r.append (.cons q .nil)
theorem rp_key {v : V} {k : Key} (h : Rp K F v (keyD k)) : v = kV k := by
  cases k with
  | inl i => exact h.int_inv
  | inr s => exact h.str_inv
theorem key_rp (k : Key) : Rp K F (kV k) (keyD k) := by
  cases k with
  | inl i => exact .int i
  | inr s => exact .str s
end
section
variable {B : Bs} {K : Fr} {F H : Hp} {σ : L2.St} {ρ : En} {ty tv tx : TE} {Q : R → En → Prop} {QD : PyData → En → Prop} {Z : Zs}
theorem we_dnewO (q : Q (.newD [] []) ρ) : WE B K tDNewK ρ Q := fun F H σ E QQ k p hp =>
  k _ (.newD [] []) F _ ρ (E.allocO hp) (Ex.refl F) ⟨p, [], rfl, E.fh.free hp, upd_same, rfl, .nil, E.h0p hp, fun i => E.fr hp i⟩ q
theorem wd_dinO {j : Nat} (h : WD B K ty ρ fun y ρ1 => ∃ k ks xs, y = keyD k ∧ ρ1[j]? = some (some (.ownD ks xs)) ∧ QD (.bool (decide (k ∈ ks))) ρ1) : WD B K (tDIn ty (tVar j)) ρ QD := fun F H σ E QQ kk =>
  h F H σ E _ fun v y F1 H1 ρ1 E1 e1 rv ⟨k, ks, xs, hy, hj, q⟩ => by
    subst hy
    rw [rp_key rv]
    obtain ⟨a, vs, ha, f1, f2, hl, f3⟩ := E1.ownD_at hj
    refine ⟨.ref a, ha, a, valV (ks.zip vs) k, rfl, DGet.k f2, ?_⟩
    rw [← valV_any, any_mem (by rw [f3.length]; exact hl)]
    exact kk _ _ F1 H1 ρ1 E1 e1 (.bl _) q
theorem wd_dnotinO {j : Nat} (h : WD B K ty ρ fun y ρ1 => ∃ k ks xs, y = keyD k ∧ ρ1[j]? = some (some (.ownD ks xs)) ∧ QD (.bool (!decide (k ∈ ks))) ρ1) : WD B K (tDNotIn ty (tVar j)) ρ QD := fun F H σ E QQ kk =>
  h F H σ E _ fun v y F1 H1 ρ1 E1 e1 rv ⟨k, ks, xs, hy, hj, q⟩ => by
    subst hy
    rw [rp_key rv]
    obtain ⟨a, vs, ha, f1, f2, hl, f3⟩ := E1.ownD_at hj
    refine ⟨.ref a, ha, a, valV (ks.zip vs) k, rfl, DGet.k f2, ?_⟩
    rw [← valV_any, any_mem (by rw [f3.length]; exact hl)]
    exact kk _ _ F1 H1 ρ1 E1 e1 (.bl _) q
theorem wd_dgetO {j : Nat} {ks0 : List Key} {xs0 : List PyData} (hj0 : ρ[j]? = some (some (.ownD ks0 xs0))) (h : WD B K ty ρ fun y ρ1 => ∃ k ks xs x, y = keyD k ∧ ρ1[j]? = some (some (.ownD ks xs)) ∧ getK ks xs k = some x ∧ QD x ρ1) : WD B K (tDGet (tVar j) ty) ρ QD := fun F H σ E QQ kk => by
  obtain ⟨a, vs0, ha, _⟩ := E.ownD_at hj0
  refine ⟨.ref a, ha, h F H σ E _ fun v y F1 H1 ρ1 E1 e1 rv ⟨k, ks, xs, x, hy, hj, hx, q⟩ => ?_⟩
  subst hy
  rw [rp_key rv]
  obtain ⟨a', vs, ha', f1, f2, hl, f3⟩ := E1.ownD_at hj
  rw [ha] at ha'
  cases ha'
  obtain ⟨w, hw, rw'⟩ := (f3.getK (ks := ks) (k := k)).1 x hx
  exact ⟨a, w, rfl, by rw [← hw, ← valV_get]; exact DGet.k f2, kk _ _ F1 H1 ρ1 E1 e1 rw' q⟩
theorem wd_dget2O {j : Nat} {ks0 : List Key} {xs0 : List PyData} (hj0 : ρ[j]? = some (some (.ownD ks0 xs0))) (h : WD B K ty ρ fun y ρ1 => WD B K tx ρ1 fun z ρ2 => ∃ k ks xs, y = keyD k ∧ ρ2[j]? = some (some (.ownD ks xs)) ∧ QD ((getK ks xs k).getD z) ρ2) : WD B K (tDGet2 (tVar j) ty tx) ρ QD := fun F H σ E QQ kk => by
  obtain ⟨a, vs0, ha, _, f0, _⟩ := E.ownD_at hj0
  refine ⟨.ref a, ha, a, rfl, .inl ⟨_, .inl f0⟩, h F H σ E _ fun v y F1 H1 ρ1 E1 e1 rv q1 => q1 F1 H1 σ E1 _ fun u z F2 H2 ρ2 E2 e2 ru ⟨k, ks, xs, hy, hj, q⟩ => ?_⟩
  subst hy
  rw [rp_key rv]
  obtain ⟨a', vs, ha', f1, f2, hl, f3⟩ := E2.ownD_at hj
  rw [ha] at ha'
  cases ha'
  refine ⟨valV (ks.zip vs) k, DGet.k f2, ?_⟩
  obtain ⟨g1, g2⟩ := f3.getK (ks := ks) (k := k)
  rw [valV_get]
  cases e : SV.getK ks xs k with
  | none =>
    rw [g2 e]
    rw [e] at q
    exact kk _ _ F2 H2 ρ2 E2 (e1.trans e2) ru q
  | some x =>
    obtain ⟨w, hw, rw'⟩ := g1 x e
    rw [hw]
    rw [e] at q
    exact kk _ _ F2 H2 ρ2 E2 (e1.trans e2) rw' q
theorem ws_dputO {j : Nat} (h : WD B K tv ρ fun x ρ1 => (∃ ks xs, ρ1[j]? = some (some (.ownD ks xs))) ∧ WD B K ty ρ1 fun y ρ2 => ∃ k ks xs, y = keyD k ∧ ρ2[j]? = some (some (.ownD ks xs)) ∧ ks.length < lim ∧ Z.nx (ρ2.set j (some (.ownD (putKs ks k) (putXs ks xs k x))))) : WS B K (sDPut (tVar j) ty tv) ρ Z := fun F H σ E D ok =>
  h F H σ E _ fun v x F1 H1 ρ1 E1 e1 rv ⟨⟨ks0, xs0, hj0⟩, q1⟩ => by
    obtain ⟨a, vs0, ha, _⟩ := E1.ownD_at hj0
    refine ⟨.ref a, ha, q1 F1 H1 σ E1 _ fun u y F2 H2 ρ2 E2 e2 ru ⟨k, ks, xs, hy, hj, hz, q⟩ => ?_⟩
    subst hy
    rw [rp_key ru]
    obtain ⟨a', vs, ha', f1, f2, hl, f3⟩ := E2.ownD_at hj
    rw [ha] at ha'
    cases ha'
    have hlv : ks.length = vs.length := by rw [f3.length]; exact hl
    refine ⟨a, _, rfl, DPut.k f2 (by rw [List.length_zip, ← hlv, Nat.min_self]; exact lim_lt hz), ?_⟩
    rw [putK_zip hlv]
    exact ok.nx F2 _ _ _ (E2.writeD hj ha (put_len hl) (f3.put (Rp.mono e2 rv))) (e1.trans e2) q
theorem wd_lenDO {j : Nat} {ks : List Key} {xs : List PyData} (hj : ρ[j]? = some (some (.ownD ks xs))) (q : QD (.int ks.length) ρ) : WD B K (tCB (fun xs H Q => ∃ a kvs, xs = [V.ref a] ∧ H a = some (.dK kvs) ∧ Q (.int kvs.length) H) (tCons (tVar j) tNil)) ρ QD := fun F H σ E QQ kk => by
  obtain ⟨a, vs, ha, f1, f2, hl, f3⟩ := E.ownD_at hj
  refine ⟨.ref a, ha, a, _, rfl, f2, kk _ _ F H ρ E (Ex.refl F) ?_ q⟩
  rw [List.length_zip, f3.length, hl, Nat.min_self]
  exact .int _
/-- the base that guards some new objects -/
def gdH (B : Bs) (H : Hp) (us : List Addr) : Hp := fun a => if a ∈ us then H a else B.H0 a
theorem EnvOk.guard (E : EnvOk B K F H σ ρ) {us : List Addr} (fr : Free B σ ρ us) (lv : ∀ a, a ∈ us → F a = none ∧ ∃ o, H a = some o) :
    EnvOk ⟨F, gdH B H us, B.pin⟩ K F H σ ρ ∧ ∀ F2 H2 ρ2, EnvOk ⟨F, gdH B H us, B.pin⟩ K F2 H2 σ ρ2 → EnvOk B K F2 H2 σ ρ2 ∧ (∀ a, a ∈ us → F2 a = none ∧ H2 a = H a) ∧ Free B σ ρ2 us := by
  have yes : ∀ a, a ∈ us → gdH B H us a = H a := fun a ha => if_pos ha
  have no : ∀ a, a ∉ us → gdH B H us a = B.H0 a := fun a ha => if_neg ha
  have nof : ∀ i a, SFp σ ρ i a → a ∉ us := fun i a h z => (fr a z).2 i h
  have pinf : ∀ i a, B.pin = some (i, a) → a ∉ us := fun i a e z => by
    obtain ⟨q1, q2⟩ := E.pin i a e
    rcases q2 with ⟨⟨xs, q2⟩, _⟩ | ⟨⟨ks, xs, q2⟩, _⟩
    · exact nof i a ⟨_, _, q2, q1, rfl⟩ z
    · exact nof i a ⟨_, _, q2, q1, rfl⟩ z
  have live : ∀ a, a ∈ us → gdH B H us a ≠ none := fun a ha => by
    obtain ⟨_, o, e⟩ := lv a ha
    rw [yes a ha, e]
    exact fun z => nomatch z
  have b0 : ∀ a, gdH B H us a = none → a ∉ us ∧ B.H0 a = none := fun a h => by
    have c : a ∉ us := fun z => live a z h
    exact ⟨c, by rw [← no a c]; exact h⟩
  constructor
  · refine ⟨⟨Ex.refl F, E.fh, fun a o e n => ?_, fun a h => ?_, fun a h _ => h⟩, E.len, E.sl, E.sep, fun i a h => ?_, fun i a e => ?_⟩
    · by_cases c : a ∈ us
      · rw [show (⟨F, gdH B H us, B.pin⟩ : Bs).H0 a = H a from yes a c] at e; exact e
      · rw [show (⟨F, gdH B H us, B.pin⟩ : Bs).H0 a = B.H0 a from no a c] at e; exact E.st.h0 a o e n
    · by_cases c : a ∈ us
      · rw [show (⟨F, gdH B H us, B.pin⟩ : Bs).H0 a = H a from yes a c] at h; exact h
      · rw [show (⟨F, gdH B H us, B.pin⟩ : Bs).H0 a = B.H0 a from no a c] at h; exact E.st.th a h
    · rw [show (⟨F, gdH B H us, B.pin⟩ : Bs).H0 a = B.H0 a from no a (nof i a h)]; exact E.mine i a h
    · rw [show (⟨F, gdH B H us, B.pin⟩ : Bs).H0 a = B.H0 a from no a (pinf i a e)]; exact E.pin i a e
  · intro F2 H2 ρ2 E2
    refine ⟨⟨⟨E.st.f0.trans E2.st.f0, E2.st.fh, fun a o e n => ?_, fun a h => ?_, fun a h1 h2 => ?_⟩, E2.len, E2.sl, E2.sep, fun i a h => ?_, fun i a e => ?_⟩, fun a ha => ?_, fun a ha => ⟨(fr a ha).1, fun i h => ?_⟩⟩
    · have c : a ∉ us := fun z => by rw [(fr a z).1] at e; cases e
      exact E2.st.h0 a o ((no a c).trans e) n
    · have c : a ∉ us := fun z => h (fr a z).1
      exact E2.st.th a fun z => h ((no a c).symm.trans z)
    · have c : a ∉ us := fun z => h2 (fr a z).1
      exact E2.st.nf a (E.st.nf a h1 h2) fun z => h2 ((no a c).symm.trans z)
    · rcases E2.mine i a h with k | k
      · exact .inl (b0 a k).2
      · exact .inr k
    · obtain ⟨q1, q2⟩ := E2.pin i a e
      rw [show (⟨F, gdH B H us, B.pin⟩ : Bs).H0 a = B.H0 a from no a (pinf i a e)] at q2
      exact ⟨q1, q2⟩
    · obtain ⟨k1, o, k2⟩ := lv a ha
      refine ⟨E2.st.nf a k1 (live a ha), ?_⟩
      rw [k2]
      exact E2.st.h0 a o ((yes a ha).trans k2) fun i z => pinf i a z ha
    · rcases E2.mine i a h with k | k
      · exact live a ha k
      · exact pinf i a k ha
/-- {k: x} -/
theorem we_disp1 (h : ∀ B' : Bs, B'.pin = B.pin → WD B' K ty ρ fun y ρ1 => WD B' K tv ρ1 fun x ρ2 => ∃ k, y = keyD k ∧ Q (.newD [k] [x]) ρ2) : WE B K (tDisp [(ty, tv)]) ρ Q := fun F H σ E QQ kk p hp => by
  have E0 := E.allocO (o := .dK []) hp
  have fr : Free B σ ρ [p] := fun a ha => by rw [List.mem_singleton.mp ha]; exact ⟨E.h0p hp, fun i => E.fr hp i⟩
  have lv : ∀ a, a ∈ [p] → F a = none ∧ ∃ o, upd H p (.dK []) a = some o := fun a ha => by rw [List.mem_singleton.mp ha]; exact ⟨E.fh.free hp, _, upd_same⟩
  obtain ⟨g1, g2⟩ := E0.guard fr lv
  refine h ⟨F, gdH B (upd H p (.dK [])) [p], B.pin⟩ rfl F _ σ g1 _ fun u y F1 H1 ρ1 E1 e1 ru q1 => q1 F1 H1 σ E1 _ fun v x F2 H2 ρ2 E2 e2 rv ⟨k, hy, q⟩ => ?_
  subst hy
  rw [rp_key ru]
  obtain ⟨E3, keep, fr3⟩ := g2 F2 H2 ρ2 E2
  obtain ⟨f1, f2⟩ := keep p List.mem_cons_self
  rw [upd_same] at f2
  refine ⟨f2, [(k, v)], rfl, (show 1 ≤ 15 by decide), ?_⟩
  have E4 := E3.poke (p := p) (o := .dK [(k, v)]) f1 (fr3 p List.mem_cons_self).1 (fr3 p List.mem_cons_self).2
  refine kk _ (.newD [k] [x]) F2 _ ρ2 E4 (e1.trans e2) ⟨p, [v], rfl, f1, ?_, rfl, .cons rv .nil, (fr3 p List.mem_cons_self).1, (fr3 p List.mem_cons_self).2⟩ q
  exact upd_same
end
end SV

set_option maxHeartbeats 1000000
namespace SV
open PySem PySem.Spec L2 PyProof.Rows
open Evl (Ex)
/-! ### a < b < c of ints -/
section
variable {B : Bs} {K : Fr} {ρ : En} {ta tb tc te : TE} {Q : R → En → Prop} {QD : PyData → En → Prop} {Z : Zs}
theorem wd_chain {p q : Int → Int → Bool} (h : WD B K ta ρ fun x ρ1 => ∃ i, x = .int i ∧ WD B K tb ρ1 fun y ρ2 => ∃ j, y = .int j ∧ (p i j = true → WD B K tc ρ2 fun z ρ3 => ∃ k, z = .int k ∧ QD (.bool (q j k)) ρ3) ∧ (p i j = false → QD (.bool false) ρ2)) :
    WD B K (tChain (rI0 fun i j => .bl (p i j)) (rI0 fun i j => .bl (q i j)) ta tb tc) ρ QD := fun F H σ E QQ k =>
  h F H σ E _ fun v x F1 H1 ρ1 E1 e1 rv ⟨i, hx, q1⟩ => q1 F1 H1 σ E1 _ fun u y F2 H2 ρ2 E2 e2 ru ⟨j, hy, q2, q3⟩ => by
    subst hx hy
    cases rv; cases ru
    refine ⟨i, j, rfl, rfl, p i j, rfl, ?_⟩
    cases c : p i j with
    | true =>
      show tc σ H2 _
      exact q2 c F2 H2 σ E2 _ fun w z F3 H3 ρ3 E3 e3 rw' ⟨l, hz, q4⟩ => by
        subst hz
        cases rw'
        exact ⟨j, l, rfl, rfl, k _ _ F3 H3 ρ3 E3 (e1.trans (e2.trans e3)) (.bl _) q4⟩
    | false =>
      show QQ (.bl false) H2
      exact k _ _ F2 H2 ρ2 E2 (e1.trans e2) (.bl _) (q3 c)
/-! ### text.split(sep) -/
abbrev rSplit : V → List V → Hp → VK → Prop := fun x xs H Q => ∃ a b, x = .str a ∧ xs = [.str b] ∧ (b.length == 0) = false ∧ a.length + 2 ≤ sizeLine ∧ rNewStrs (Txt.split a b) H Q
theorem we_split (h : WD B K ta ρ fun x ρ1 => ∃ a, x = .str a ∧ WD B K tb ρ1 fun y ρ2 => ∃ b, y = .str b ∧ ((b.length == 0) = false ∧ a.length < lim) ∧ Q (.new ((Txt.split a b).map .str)) ρ2) : WE B K (tM1 rSplit ta tb) ρ Q := fun F H σ E QQ k =>
  h F H σ E _ fun v x F1 H1 ρ1 E1 e1 rv ⟨a, hx, q1⟩ => by
    subst hx
    cases rv
    refine ⟨⟨a, rfl⟩, q1 F1 H1 σ E1 _ fun u y F2 H2 ρ2 E2 e2 ru ⟨b, hy, ⟨hb, ha⟩, q2⟩ => ?_⟩
    subst hy
    cases ru
    refine ⟨a, b, rfl, rfl, hb, Nat.le_trans (show a.length + 2 ≤ 1000002 by unfold lim at ha; omega) (by decide), fun p hp => ?_⟩
    obtain ⟨E3, r3⟩ := new_ok E2 hp (RpA.of_strs (K := K) (F := F2) (Txt.split a b))
    exact k _ _ F2 _ ρ2 E3 (e1.trans e2) r3 q2
end
/-! ### sorted(xs) of tuples of ints: by the first where they differ -/
def lexI : List Int → List Int → Bool
  | [], [] => false
  | [], _ :: _ => true
  | _ :: _, [] => false
  | x :: r, y :: t => if x = y then lexI r t else decide (x < y)
theorem lexI_asym : ∀ a b : List Int, lexI a b = true → lexI b a = false
  | [], [], h => by simp [lexI] at h
  | [], _ :: _, _ => rfl
  | _ :: _, [], h => by simp [lexI] at h
  | x :: r, y :: t, h => by
    unfold lexI at h ⊢
    by_cases c : x = y
    · rw [if_pos c] at h
      rw [if_pos c.symm]
      exact lexI_asym r t h
    · rw [if_neg c, decide_eq_true_eq] at h
      rw [if_neg fun z => c z.symm, decide_eq_false_iff_not]
      omega
theorem lexI_eq : ∀ a b : List Int, lexI a b = false → lexI b a = false → a = b
  | [], [], _, _ => rfl
  | [], _ :: _, h, _ => by simp [lexI] at h
  | _ :: _, [], _, h => by simp [lexI] at h
  | x :: r, y :: t, h1, h2 => by
    unfold lexI at h1 h2
    by_cases c : x = y
    · rw [if_pos c] at h1
      rw [if_pos c.symm] at h2
      rw [c, lexI_eq r t h1 h2]
    · rw [if_neg c, decide_eq_false_iff_not] at h1
      rw [if_neg fun z => c z.symm, decide_eq_false_iff_not] at h2
      omega
theorem lexI_tr : ∀ a b c : List Int, lexI b a = false → lexI c b = false → lexI c a = false
  | [], [], c, _, h2 => h2
  | [], _ :: _, [], _, _ => rfl
  | [], _ :: _, _ :: _, _, _ => rfl
  | _ :: _, [], _, h1, _ => by simp [lexI] at h1
  | x :: r, y :: t, [], _, h2 => by simp [lexI] at h2
  | x :: r, y :: t, z :: u, h1, h2 => by
    unfold lexI at h1 h2 ⊢
    by_cases c1 : y = x
    · rw [if_pos c1] at h1
      by_cases c2 : z = y
      · rw [if_pos c2] at h2
        rw [if_pos (c2.trans c1)]
        exact lexI_tr r t u h1 h2
      · rw [if_neg c2] at h2
        rw [if_neg fun e => c2 (e.trans c1.symm), ← c1]
        exact h2
    · rw [if_neg c1, decide_eq_false_iff_not] at h1
      by_cases c2 : z = y
      · rw [if_neg fun e => c1 (c2.symm.trans e), c2, decide_eq_false_iff_not]
        exact h1
      · rw [if_neg c2, decide_eq_false_iff_not] at h2
        rw [if_neg (by omega), decide_eq_false_iff_not]
        omega
theorem lexI_swo {α : Type} (k : α → List Int) : SrtO.Swo fun v u => lexI (k v) (k u) :=
  ⟨fun x y h => lexI_asym _ _ h, fun x y z h1 h2 => lexI_tr _ _ _ h1 h2⟩
section
variable {prog : Program} {w : World} {A : Around} {E : Value → Shared → Prop} {s : Shared}
theorem kat_ints {b fin : Bool} {Q : Bool → Shared → Prop} : ∀ {us ws : List Value} {as bs : List Int} (i : Nat), IntsAre us as → IntsAre ws bs → fin = decide (us.length < ws.length) → Q (lexI as bs) s → PySem.W.KatLex prog w A b fin Q (us.zip ws) i s
  | _, _, _, _, i, .nil, .nil, hf, h => by
    have e : fin = false := by rw [hf]; rfl
    subst e
    exact PySem.W.kat_nil h
  | _, _, _, _, i, .nil, .cons n t r, hf, h => by
    have e : fin = true := by rw [hf]; exact decide_eq_true (Nat.succ_pos _)
    subst e
    exact PySem.W.kat_nil h
  | _, _, _, _, i, .cons n t r, .nil, hf, h => by
    have e : fin = false := by rw [hf]; exact decide_eq_false (Nat.not_lt_zero _)
    subst e
    exact PySem.W.kat_nil h
  | _, _, _, _, i, .cons n t r, .cons m u r2, hf, h => by
    refine PySem.W.kat_cons (wpAny_eqBool_int ?_)
    refine PySem.W.kat_go (fun e => PySem.W.kat_yes ?_) (fun e => PySem.W.kat_no ?_)
    · have hnm : n = m := by simpa using e
      subst hnm
      refine kat_ints (i + 1) r r2 (by rw [hf]; simp only [List.length_cons, Nat.add_lt_add_iff_right]) ?_
      unfold lexI at h
      rw [if_pos rfl] at h
      exact h
    · have hnm : ¬ n = m := by simpa using e
      unfold lexI at h
      rw [if_neg hnm] at h
      exact oneLt_any_int h
/-- v is a tuple of these ints -/
def IsTI (h : Heap) (v : Value) (ns : List Int) : Prop := ∃ a o us n, v = .ref a ∧ h.get? a = some o ∧ o.cls = .type "tuple" ∧ o.data = .seq us n ∧ IntsAre us.toList ns
theorem IsTI.keeps {h h' : Heap} {v : Value} {ns : List Int} (p : IsTI h v ns) (k : ∀ b o, h.get? b = some o → o.cls = .type "tuple" → h'.get? b = some o) : IsTI h' v ns := by
  obtain ⟨a, o, us, n, e, ho, hc, hd, hi⟩ := p
  exact ⟨a, o, us, n, e, k _ _ ho hc, hc, hd, hi⟩
theorem ti_cmp {vs : List Value} {k : Value → List Int} (hp : ∀ v ∈ vs, IsTI s.heap v (k v)) : SrtO.Cmp prog w A s (tuples' true) (fun p => p.1 ∈ vs) (SrtO.lt2 fun v u => lexI (k v) (k u)) := by
  intro p q hm hm'
  have h1 := hp _ hm
  have h2 := hp _ hm'
  show wpAny (model prog w) A (keyLt' (tuples' true) p.1 q.1) (fun r s' => s' = s ∧ r = lexI (k p.1) (k q.1)) (fun _ _ => False) s
  generalize k p.1 = as at h1 ⊢
  generalize k q.1 = bs at h2 ⊢
  obtain ⟨a, o, us, n, e, ho, hc, hd, hi⟩ := h1
  obtain ⟨a', o', us', n', e', ho', hc', hd', hi'⟩ := h2
  rw [e, e']
  exact PySem.W.kat_lt ho hd ho' hd' (kat_ints 0 hi hi' (by rw [Array.length_toList, Array.length_toList]) ⟨rfl, rfl⟩)
theorem ti_firsts {h : Heap} : ∀ {vs : List Value}, (∀ v ∈ vs, ∃ n ns, IsTI h v (n :: ns)) → ∃ fs : List Value, PySem.W.KatTups h vs fs ∧ fs.length = vs.length ∧ ∀ f ∈ fs, ∃ x t, f = Value.int x t
  | [], _ => ⟨[], PySem.W.KatTups.nil, rfl, fun _ hm => by simp at hm⟩
  | v :: vs, hp => by
    obtain ⟨fs, h1, h2, h3⟩ := ti_firsts (vs := vs) fun v' hm => hp v' (List.mem_cons_of_mem _ hm)
    obtain ⟨x, ns, a, o, us, n, e, ho, hc, hd, hi⟩ := hp v (List.mem_cons_self ..)
    subst e
    generalize hl : us.toList = l at hi
    cases hi with
    | cons _ t r =>
      refine ⟨.int x t :: fs, PySem.W.KatTups.cons ho hc hd (by rw [← Array.getElem?_toList, hl]; rfl) h1, by rw [List.length_cons, List.length_cons, h2], fun f hm => ?_⟩
      rcases List.mem_cons.mp hm with rfl | hm
      · exact ⟨x, t, rfl⟩
      · exact h3 f hm
theorem ti_sortable {a : Addr} {vs : List Value} {k : Value → List Int} (h0 : 0 < vs.length) (hp : ∀ v ∈ vs, IsTI s.heap v (k v)) (hk : ∀ v ∈ vs, k v ≠ []) (ha : ∀ o, s.heap.get? a = some o → o.cls ≠ .type "tuple") : SrtO.SortableO prog w A s a vs fun v u => lexI (k v) (k u) := by
  intro h' keep
  have hp' : ∀ v ∈ vs, IsTI h' v (k v) := fun v hm => (hp v hm).keeps fun b o e c => keep b o (fun z => by subst z; exact ha o e c) e
  obtain ⟨fs, h1, h2, h3⟩ := ti_firsts fun v hm => by
    have e := hp' v hm
    have n := hk v hm
    cases q : k v with
    | nil => exact absurd q n
    | cons x ns => rw [q] at e; exact ⟨x, ns, e⟩
  refine ⟨tuples' true, fun Q E hq => ?_, ti_cmp hp'⟩
  refine PySem.W.kat_kind (T := .type "int") h1 (by omega) (fun f hm => ?_) (by rfl) ?_
  · obtain ⟨x, t, rfl⟩ := h3 f hm
    exact PySem.W.Looks.now
  · have e : (Value.type "int" != Value.type "tuple") = true := by first | decide +kernel | rfl | decide
    rw [e]
    exact hq
theorem sorted_ti {l : Addr} {vs : List Value} {k : Value → List Int} {Q : Value → Shared → Prop} (hl : s.heap.IsList l vs.toArray) (hz : vs.length ≤ sizeLine) (hp : ∀ v ∈ vs, IsTI s.heap v (k v)) (hk : ∀ v ∈ vs, k v ≠ [])
    (h : ∀ (h' : Heap) (d : Addr) (out : List Value), SrtO.Srtd (fun v u => lexI (k v) (k u)) out → out.Perm vs → (∀ b o, s.heap.get? b = some o → h'.get? b = some o) → s.heap.objs.size ≤ d → (∃ n, h'.get? d = some (seqObj "list" out.toArray n)) → Q (.ref d) { s with heap := h' }) :
    wpAny (model prog w) A (call (.builtin "sorted") [.ref l]) Q E s := by
  refine SrtO.sorted_ord (lexI_swo k) hl hz (fun h2 h₁ a ha kk => ?_) fun out hs hb => ?_
  · refine ti_sortable (s := { s with heap := h₁ }) (by omega) (fun v hm => (hp v hm).keeps fun b o e _ => (kk b o e).2) hk fun o e => ?_
    have e' : some o = some (seqObj "list" vs.toArray 0) := e.symm.trans ha
    cases e'
    intro c
    exact absurd (Value.type.inj c) (by decide)
  · exact h _ _ out hs hb.perm (fun b o e => sortedAll_old e) (Nat.le_succ _) (sortedAll_at s.heap vs out.toArray)
end
/-- sorted(xs): xs a list of tuples of ints -/
def rSortTI (K : Fr) : List V → Hp → VK → Prop := fun vs H Q => ∃ (a : Addr) (ps : List (V × List Int)), vs = [V.ref a] ∧ SqL K H a (ps.map (·.1)) ∧ (∀ p ∈ ps, p.2 ≠ [] ∧ ∃ t, p.1 = V.ref t ∧ SqT K H t (p.2.map V.int)) ∧
  ∀ (qs : List (V × List Int)) p, qs.Perm ps → qs.Pairwise (fun x y => lexI y.2 x.2 = false) → H p = none → Q (.ref p) (upd H p (.lst (qs.map (·.1))))
noncomputable def keyOf (ps : List (V × List Int)) (x : V) : List Int := @dite _ (∃ ns, (x, ns) ∈ ps) (Classical.propDecidable _) (fun h => Classical.choose h) (fun _ => [])
theorem keyOf_in {ps : List (V × List Int)} {p : V × List Int} (h : p ∈ ps) : (p.1, keyOf ps p.1) ∈ ps := by
  have e : ∃ ns, (p.1, ns) ∈ ps := ⟨p.2, h⟩
  unfold keyOf
  rw [dif_pos e]
  exact Classical.choose_spec e
theorem map_int_inj : ∀ {ns ms : List Int}, ns.map V.int = ms.map V.int → ns = ms
  | [], [], _ => rfl
  | [], _ :: _, h => by simp at h
  | _ :: _, [], h => by simp at h
  | n :: ns, m :: ms, h => by
    rw [List.map_cons, List.map_cons] at h
    obtain ⟨h1, h2⟩ := List.cons.inj h
    cases h1
    rw [map_int_inj h2]
theorem cr_sortTI {X : Cx} : CallR X (.builtin "sorted") (rSortTI X.K) := by
  intro pins s σ H vs us Q I r h
  obtain ⟨a, ps, rfl, hs, hx, q⟩ := h
  obtain ⟨its, rv, hl, hz⟩ := I.list hs
  obtain ⟨u, rfl, ru⟩ := vals1 r
  obtain rfl : u = Value.ref a := ru
  obtain ⟨e1, e2⟩ := refs_back rv fun x m => by
    obtain ⟨p, hp, rfl⟩ := List.mem_map.mp m
    obtain ⟨_, t, e, _⟩ := hx p hp
    exact ⟨t, e⟩
  have kk : ∀ p, p ∈ ps → keyOf ps p.1 = p.2 := fun p hp => by
    obtain ⟨_, t, e, ht⟩ := hx p hp
    obtain ⟨_, t', e', ht'⟩ := hx _ (keyOf_in hp)
    rw [show (p.1, keyOf ps p.1).1 = p.1 from rfl, e] at e'
    cases e'
    exact map_int_inj (I.tuple_inj ht' ht)
  let k : Value → List Int := fun u => keyOf ps (backV u)
  have back : ∀ v, v ∈ its → ∃ t, v = Value.ref t ∧ (V.ref t, k v) ∈ ps ∧ k v ≠ [] ∧ SqT X.K H t ((k v).map V.int) := fun v hv => by
    obtain ⟨t, rfl⟩ := e2 v hv
    have hm : V.ref t ∈ ps.map (·.1) := by rw [e1]; exact List.mem_map.mpr ⟨_, hv, rfl⟩
    obtain ⟨p, hp, ep⟩ := List.mem_map.mp hm
    obtain ⟨hk, t', e, ht⟩ := hx p hp
    have e3 := kk p hp
    rw [ep] at e e3
    cases e
    have e4 : k (.ref t) = p.2 := e3
    rw [e4]
    exact ⟨t, rfl, by rw [← ep]; exact hp, hk, ht⟩
  refine sorted_ti (k := k) hl.isList (by rw [← rv.length]; exact hz) (fun v hv => ?_) (fun v hv => ?_) fun h' d out h1 h2 kp hd hn => ?_
  · obtain ⟨t, e, hm, hk, ht⟩ := back v hv
    obtain ⟨its2, r2, ⟨o, ho, hc, n, hdt⟩, _⟩ := I.tuple ht
    exact ⟨t, o, its2.toArray, n, e, ho, hc, hdt, by simpa using r2.ints⟩
  · obtain ⟨t, e, hm, hk, ht⟩ := back v hv
    exact hk
  · have h3 : ∀ u ∈ out, ∃ a, u = Value.ref a := fun u hu => e2 u (h2.mem_iff.mp hu)
    obtain ⟨n, hn⟩ := hn
    have e5 : its.map (fun u => (backV u, k u)) = ps := by
      have e6 : its.map (fun u => (backV u, k u)) = (its.map backV).map fun x => (x, keyOf ps x) := by rw [List.map_map]; rfl
      rw [e6, ← e1, List.map_map]
      have e7 : ps.map ((fun x => (x, keyOf ps x)) ∘ fun p => p.1) = ps.map id := List.map_congr_left fun p hp => by
        show (p.1, keyOf ps p.1) = p
        rw [kk p hp]
      rw [e7, List.map_id]
    have hb : (out.map fun u => (backV u, k u)).Perm ps := by
      rw [← e5]
      exact h2.map _
    have e8 : (out.map fun u => (backV u, k u)).map (·.1) = out.map backV := by rw [List.map_map]; rfl
    have hq := q (out.map fun u => (backV u, k u)) d hb (by
      rw [List.pairwise_map]
      exact h1) (I.hok.fresh hd)
    rw [e8] at hq
    refine ⟨.ref d, upd H d (.lst (out.map backV)), I.laid (t' := s.toks) kp hd ⟨?_, out, n, vals_back h3, hn⟩, rfl, hq⟩
    have e9 := hb.length_eq
    rw [List.length_map] at e9 hz ⊢
    rw [e9]
    exact hz
theorem k_sortTI {X : Cx} (K : Fr) (h : X.K = K := by rfl) : CallR X (.builtin "sorted") (rSortTI K) := h ▸ cr_sortTI
theorem k_sortI {X : Cx} (K : Fr) (h : X.K = K := by rfl) : CallR X (.builtin "sorted") (rSortedI K) := h ▸ cr_sortedI
/-- a tuple of ints -/
def tiD (ns : List Int) : PyData := .tuple (ns.map .int)
theorem RpA.split_ti {K : Fr} {F : Hp} : ∀ {vs : List V} {ts : List (List Int)}, RpA K F vs (ts.map tiD) → ∃ ps : List (V × List Int), ps.map (·.1) = vs ∧ ps.map (·.2) = ts ∧ ∀ p, p ∈ ps → Rp K F p.1 (tiD p.2)
  | [], [], .nil => ⟨[], rfl, rfl, fun _ h => nomatch h⟩
  | v :: vs, t :: ts, .cons h r => by
    obtain ⟨ps, h1, h2, h3⟩ := RpA.split_ti r
    exact ⟨(v, t) :: ps, by rw [List.map_cons, h1], by rw [List.map_cons, h2], fun p hp => (List.mem_cons.mp hp).elim (fun e => by subst e; exact h) (h3 p)⟩
theorem RpA.of_ps {K : Fr} {F : Hp} : ∀ {ps : List (V × List Int)}, (∀ p, p ∈ ps → Rp K F p.1 (tiD p.2)) → RpA K F (ps.map (·.1)) ((ps.map (·.2)).map tiD)
  | [], _ => .nil
  | p :: ps, h => .cons (h p List.mem_cons_self) (RpA.of_ps fun q hq => h q (List.mem_cons_of_mem _ hq))
section
variable {B : Bs} {K : Fr} {ρ : En} {ta te : TE} {Q : R → En → Prop}
/-- a is no later than b -/
def leI (a b : List Int) : Prop := lexI b a = false
theorem we_sortTI (h : WD B K te ρ fun x ρ1 => ∃ ts : List (List Int), x = .list (ts.map tiD) ∧ (∀ t, t ∈ ts → t ≠ []) ∧ ∀ ts' : List (List Int), ts'.Perm ts → ts'.Pairwise leI → Q (.new (ts'.map tiD)) ρ1) : WE B K (tCB (rSortTI K) (tCons te tNil)) ρ Q := fun F H σ E QQ k =>
  h F H σ E _ fun v x F1 H1 ρ1 E1 e1 rv ⟨ts, hx, hne, q⟩ => by
    subst hx
    cases rv with
    | @lst a vs xs ha ra =>
    obtain ⟨ps, h1, h2, h3⟩ := ra.split_ti
    refine ⟨a, ps, rfl, .inl (.inl (by rw [h1]; exact E1.fh _ _ ha)), fun p hp => ⟨hne _ (by rw [← h2]; exact List.mem_map.mpr ⟨p, hp, rfl⟩), ?_⟩, fun qs p pm pw hp => ?_⟩
    · have r := h3 p hp
      generalize p.1 = v at r ⊢
      cases r with
      | @tup t us ys ht rt =>
        have e := rt.ints
        subst e
        exact ⟨t, rfl, E1.fh.stt ht⟩
    · have h4 : ∀ p, p ∈ qs → Rp K F1 p.1 (tiD p.2) := fun p hp => h3 p (pm.mem_iff.mp hp)
      obtain ⟨E2, r2⟩ := new_ok E1 hp (RpA.of_ps h4)
      exact k _ _ F1 _ ρ1 E2 e1 r2 (q (qs.map (·.2)) (by rw [← h2]; exact pm.map _) (by rw [List.pairwise_map]; exact pw))
theorem we_sortI (h : WD B K te ρ fun x ρ1 => ∃ ns : List Int, x = .list (ns.map .int) ∧ ∀ ns' : List Int, ns'.Perm ns → ns'.Pairwise (· ≤ ·) → Q (.new (ns'.map .int)) ρ1) : WE B K (tCB (rSortedI K) (tCons te tNil)) ρ Q := fun F H σ E QQ k =>
  h F H σ E _ fun v x F1 H1 ρ1 E1 e1 rv ⟨ns, hx, q⟩ => by
    subst hx
    cases rv with
    | @lst a vs xs ha ra =>
    have e := ra.ints
    subst e
    refine ⟨a, ns, rfl, .inl (.inl (E1.fh _ _ ha)), fun ns' p pm pw hp => ?_⟩
    obtain ⟨E2, r2⟩ := new_ok E1 hp (RpA.of_ints (K := K) (F := F1) ns')
    exact k _ _ F1 _ ρ1 E2 e1 r2 (q ns' pm pw)
end
/-! ### for i, x in enumerate(xs); for x, y in zip(xs, ys) -/
def enD {α : Type} (f : α → PyData) (p : Nat × α) : PyData := .tuple [.int p.1, f p.2]
def enL {α : Type} (as : List α) : List (Nat × α) := (List.range as.length).zip as
theorem enL_at {α : Type} {as : List α} {i : Nat} {p : Nat × α} (h : (enL as)[i]? = some p) : p.1 = i ∧ as[i]? = some p.2 := by
  unfold enL at h
  rw [List.getElem?_zip_eq_some] at h
  obtain ⟨h1, h2⟩ := h
  have hi := (List.getElem?_eq_some_iff.mp h1).1
  rw [List.length_range] at hi
  rw [List.getElem?_range hi] at h1
  exact ⟨(Option.some.inj h1).symm, h2⟩
theorem enL_len {α : Type} {as : List α} : (enL as).length = as.length := by
  unfold enL
  rw [List.length_zip, List.length_range, Nat.min_self]
theorem enL_in {α : Type} {as : List α} {pre post : List (Nat × α)} {p : Nat × α} (h : enL as = pre ++ p :: post) : p.1 = pre.length ∧ as[pre.length]? = some p.2 ∧ pre = enL (as.take pre.length) := by
  have e : (enL as)[pre.length]? = some p := by rw [h, List.getElem?_append_right (Nat.le_refl _), Nat.sub_self]; rfl
  obtain ⟨h1, h2⟩ := enL_at e
  refine ⟨h1, h2, ?_⟩
  have hl := (List.getElem?_eq_some_iff.mp h2).1
  have e2 : (enL as).take pre.length = pre := by rw [h, List.take_left]
  have key : ∀ m, m ≤ as.length → (enL as).take m = enL (as.take m) := fun m hm => by
    unfold enL
    rw [List.zip_eq_zipWith, List.zip_eq_zipWith, List.take_zipWith, List.length_take, List.take_range, Nat.min_eq_left hm]
  rw [← key pre.length (Nat.le_of_lt hl), e2]
def zpD {α β : Type} (f : α → PyData) (g : β → PyData) (p : α × β) : PyData := .tuple [f p.1, g p.2]
section
variable {B : Bs} {K : Fr} {ρ : En} {ta tb te : TE} {Q : R → En → Prop} {Z : Zs}
theorem pair_new {F H : Hp} {σ : L2.St} (E : EnvOk B K F H σ ρ) {T : Addr} {x y : V} {d e : PyData} (hT : H T = none) (hx : Rp K F x d) (hy : Rp K F y e) : ∃ F', EnvOk B K F' (upd H T (.tup [x, y])) σ ρ ∧ Ex F F' ∧ Rp K F' (.ref T) (.tuple [d, e]) := by
  obtain ⟨E2, e2⟩ := E.alloc (o := .tup [x, y]) hT
  exact ⟨_, E2, e2, .tup (.inl (.inl upd_same)) (.cons (Rp.mono e2 hx) (.cons (Rp.mono e2 hy) .nil))⟩
theorem ws_forEn {α : Type} {g : TG} {tS : TS} (f : α → PyData) (h : WD B K te ρ fun x ρ1 => ∃ as : List α, x = .list (as.map f) ∧ Loop B K g tS (enD f) (enL as) ρ1 Z) : WS B K (tFor (iEnum K (tCons te tNil)) g tS) ρ Z := fun F H σ E D ok =>
  h F H σ E _ fun v x F1 H1 ρ1 E1 e1 rv ⟨as, hx, I, i0, is, id⟩ => by
    subst hx
    cases rv with
    | @lst a vs xs ha ra =>
    have hl : vs.length = as.length := by rw [ra.length, List.length_map]
    have sq : ∀ {F2 H2 : Hp}, Ex F1 F2 → Ex F2 H2 → SqL K H2 a vs := fun e fh => .inl (.inl (fh _ _ (e _ _ ha)))
    refine ⟨a, vs, rfl, .inl (.inl (E1.fh _ _ ha)), loop_gen (f := enD f) (as := enL as) (fun _ => True) E1 e1 ok (fun i p F2 H2 σ2 ρ2 ea E2 e2 _ => ?_) (fun i F2 H2 σ2 ρ2 hi E2 e2 _ => ⟨vs, sq e2 E2.fh, by rw [enL_len] at hi; omega⟩) (fun i p F2 H2 σ2 ρ2 y H' ea E2 e2 _ hy => ?_) I (fun _ _ _ => trivial) i0 is id⟩
    · obtain ⟨_, h2⟩ := enL_at ea
      obtain ⟨w, hw, _⟩ := at_map' ra h2
      exact ⟨vs, w, sq e2 E2.fh, hw⟩
    · obtain ⟨h1, h2⟩ := enL_at ea
      obtain ⟨T, w, rfl, hT, rfl, hw⟩ := hy
      unfold enD
      rw [h1]
      exact pair_new E2 hT (.int _) (Rp.mono e2 (at_map ra h2 (hw vs (sq e2 E2.fh))))
theorem ws_forZip {α β : Type} {g : TG} {tS : TS} (f : α → PyData) (f2 : β → PyData) (h : WD B K ta ρ fun x ρ1 => ∃ as : List α, x = .list (as.map f) ∧ WD B K tb ρ1 fun y ρ2 => ∃ bs : List β, y = .list (bs.map f2) ∧ Loop B K g tS (zpD f f2) (as.zip bs) ρ2 Z) : WS B K (tFor (iZip K (tCons ta (tCons tb tNil))) g tS) ρ Z := fun F H σ E D ok =>
  h F H σ E _ fun v x F1 H1 ρ1 E1 e1 rv ⟨as, hx, q⟩ => q F1 H1 σ E1 _ fun u y F3 H3 ρ3 E3 e3 ru ⟨bs, hy, I, i0, is, id⟩ => by
    subst hx hy
    have rv' := Rp.mono e3 rv
    cases rv' with
    | @lst a vs xs ha ra =>
    cases ru with
    | @lst b us ys hb rb =>
    have hl : vs.length = as.length := by rw [ra.length, List.length_map]
    have hl2 : us.length = bs.length := by rw [rb.length, List.length_map]
    have sq : ∀ {F2 H2 : Hp}, Ex F3 F2 → Ex F2 H2 → SqL K H2 a vs := fun e fh => .inl (.inl (fh _ _ (e _ _ ha)))
    have sq2 : ∀ {F2 H2 : Hp}, Ex F3 F2 → Ex F2 H2 → SqL K H2 b us := fun e fh => .inl (.inl (fh _ _ (e _ _ hb)))
    refine ⟨a, b, vs, us, rfl, .inl (.inl (E3.fh _ _ ha)), .inl (.inl (E3.fh _ _ hb)), loop_gen (f := zpD f f2) (as := as.zip bs) (fun _ => True) E3 (e1.trans e3) ok (fun i p F2 H2 σ2 ρ2 ea E2 e2 _ => ?_) (fun i F2 H2 σ2 ρ2 hi E2 e2 _ => ⟨vs, us, sq e2 E2.fh, sq2 e2 E2.fh, by rw [List.length_zip] at hi; omega⟩) (fun i p F2 H2 σ2 ρ2 y H' ea E2 e2 _ hy => ?_) I (fun _ _ _ => trivial) i0 is id⟩
    · rw [List.getElem?_zip_eq_some] at ea
      obtain ⟨w, hw, _⟩ := at_map' ra ea.1
      obtain ⟨w2, hw2, _⟩ := at_map' rb ea.2
      exact ⟨vs, us, w, w2, sq e2 E2.fh, sq2 e2 E2.fh, hw, hw2⟩
    · rw [List.getElem?_zip_eq_some] at ea
      obtain ⟨T, w, w2, rfl, hT, rfl, hw, hw2⟩ := hy
      exact pair_new E2 hT (Rp.mono e2 (at_map ra ea.1 (hw vs (sq e2 E2.fh)))) (Rp.mono e2 (at_map rb ea.2 (hw2 us (sq2 e2 E2.fh))))
end
/-! ### own things that are only looked at -/
section
variable {B : Bs} {K : Fr} {ρ : En} {ta tb te to : TE} {Q : R → En → Prop} {QD : PyData → En → Prop} {Z : Zs}
theorem wd_isiP (t : Ty) (h : WE B K to ρ fun r ρ1 => ∃ a, r = .raw (.ref a) ∧ (∃ (j : Nat) (t0 : OT) (π : List Nat) (ts : List OT), ρ1[j]? = some (some (.deep t0)) ∧ t0.at π = some (.lst a ts)) ∧ QD (.bool (isTy .list t)) ρ1) :
    WD B K (tCB (rIsi K) (tCons to (tCons (tC (.ty t.name)) tNil))) ρ QD := fun F H σ E QQ k =>
  h F H σ E _ fun v r F1 H1 ρ1 E1 e1 rv ⟨a, hr, ⟨j, t0, π, ts, hj, hat⟩, q⟩ => by
    subst hr
    cases (show v = .ref a from rv)
    obtain ⟨_, vs, hv, _⟩ := E1.list_at hj hat
    exact ⟨.ref a, .ty t.name, .type "list", .type t.name, isTy .list t, rfl, .ty _, .base (.lst hv), kit_ok .list t, k _ _ F1 H1 ρ1 E1 e1 (.bl _) q⟩
theorem wd_isiPl (h : WE B K to ρ fun r ρ1 => ∃ a, r = .raw (.ref a) ∧ (∃ (j : Nat) (t0 : OT) (π : List Nat) (ts : List OT), ρ1[j]? = some (some (.deep t0)) ∧ t0.at π = some (.lst a ts)) ∧ QD (.bool true) ρ1) :
    WD B K (tCB (rIsi K) (tCons to (tCons (tC (.ty "list")) tNil))) ρ QD := wd_isiP .list h
theorem wd_isiT {j : Nat} {a : Addr} {ts : List OT} (hj : ρ[j]? = some (some (.deep (.lst a ts)))) (q : QD (.bool true) ρ) :
    WD B K (tCB (rIsi K) (tCons (tVar j) (tCons (tC (.ty "list")) tNil))) ρ QD := wd_isiP .list (we_ptr hj ⟨a, rfl, ⟨j, _, [], ts, hj, rfl⟩, q⟩)
theorem wd_isiO {j : Nat} {xs : List PyData} (hj : ρ[j]? = some (some (.own xs))) (q : QD (.bool true) ρ) :
    WD B K (tCB (rIsi K) (tCons (tVar j) (tCons (tC (.ty "list")) tNil))) ρ QD := fun F H σ E QQ k => by
  obtain ⟨a, vs, e, _, k2, k3⟩ := E.own_at hj
  exact ⟨.ref a, e, .ref a, .ty "list", .type "list", .type "list", isTy .list .list, rfl, .ty _, .base (.lst k2), kit_ok .list .list, k _ _ F H ρ E (Ex.refl F) (.bl _) q⟩
theorem OtA.swap {F F' H H' : Hp} (e : Ex F F') : ∀ {ts : List OT} {vs ws : List V}, OtA K F H vs ts → OtA K F' H' ws ts → OtA K F' H' vs ts
  | [], _, _, .nil, .nil => .nil
  | .d _ :: _, _, _, .cons (.d h) r, .cons _ r2 => .cons (.d (Rp.mono e h)) (OtA.swap e r r2)
  | .lst _ _ :: _, _, _, .cons (.lst _ _ _) r, .cons (.lst a b c) r2 => .cons (.lst a b c) (OtA.swap e r r2)
  | .tup _ _ :: _, _, _, .cons (.tup _ _ _) r, .cons (.tup a b c) r2 => .cons (.tup a b c) (OtA.swap e r r2)
  | .dct _ _ _ :: _, _, _, .cons (.dct _ _ _ _) r, .cons (.dct a b l c) r2 => .cons (.dct a b l c) (OtA.swap e r r2)
theorem OtA.drop {F H : Hp} : ∀ {ts : List OT} {vs : List V} (n : Nat), OtA K F H vs ts → OtA K F H (vs.drop n) (ts.drop n)
  | _, _, 0, r => r
  | [], _, _ + 1, .nil => .nil
  | _ :: _, _, n + 1, .cons _ r => OtA.drop n r
theorem OtA.cut {F H : Hp} {vs : List V} {ts : List OT} (r : OtA K F H vs ts) (lo hi : Option Int) : OtA K F H (cutV vs lo hi) (cutD ts lo hi) := by
  unfold cutV cutD
  rw [r.length]
  exact (r.drop _).take _
theorem areD_sub {ts : List OT} (h : areD ts = true) : ∀ us : List OT, (∀ u, u ∈ us → u ∈ ts) → areD us = true := by
  have all : ∀ {ts : List OT}, areD ts = true → ∀ u, u ∈ ts → u.isD = true := by
    intro ts
    induction ts with
    | nil => intro _ u hu; cases hu
    | cons t ts ih =>
      intro h u hu
      have h' := Bool.and_eq_true_iff.mp (show (t.isD && areD ts) = true from h)
      rcases List.mem_cons.mp hu with rfl | hu
      · exact h'.1
      · exact ih h'.2 u hu
  intro us
  induction us with
  | nil => intro _; rfl
  | cons u us ih =>
    intro hs
    show (u.isD && areD us) = true
    rw [all h u (hs u List.mem_cons_self), ih fun v hv => hs v (List.mem_cons_of_mem _ hv)]
    rfl
theorem cutD_in {α : Type} {ts : List α} {lo hi : Option Int} {u : α} (h : u ∈ cutD ts lo hi) : u ∈ ts := List.mem_of_mem_drop (List.mem_of_mem_take h)
theorem datas_cut (ts : List OT) (lo hi : Option Int) : datas (cutD ts lo hi) = cutD (datas ts) lo hi := by
  rw [datas_eq, datas_eq, cutD_map]
theorem wd_sl2T {op : R2} (g : Bool → Bool) {j : Nat} {a : Addr} {ts0 : List OT} {t1 t2 : TO} (hop : ∀ v w x y H (QQ : VK), Dp K H v x → Dp K H w y → SeqAt.shaped x = true → SeqAt.shaped y = true → QQ (.bl (g (PyData.eqv x y))) H → op v w H QQ) (hj : ρ[j]? = some (some (.deep (.lst a ts0))))
    (h : WO B K t1 ρ fun lo ρ1 => WO B K t2 ρ1 fun hi ρ2 => ∃ ts, ρ2[j]? = some (some (.deep (.lst a ts))) ∧ areD ts = true ∧ WD B K tb ρ2 fun y ρ3 => ρ3[j]? = some (some (.deep (.lst a ts))) ∧ (noD (.list (cutD (datas ts) lo hi)) = true ∧ noD y = true ∧ SeqAt.shaped (.list (cutD (datas ts) lo hi)) = true ∧ SeqAt.shaped y = true) ∧ QD (.bool (g (PyData.eqv (.list (cutD (datas ts) lo hi)) y))) ρ3) :
    WD B K (tOp op (tSl (rSlAny K) (tVar j) t1 t2) tb) ρ QD := fun F H σ E QQ k => by
  obtain ⟨v, e, s, nd⟩ := E.sl j _ hj
  have ev : v = .ref a := by cases s; rfl
  subst ev
  refine ⟨.ref a, e, h F H σ E _ fun lo F1 H1 ρ1 E1 e1 q1 => q1 F1 H1 σ E1 _ fun hi F2 H2 ρ2 E2 e2 ⟨ts, hj2, hd, q2⟩ => ?_⟩
  obtain ⟨fa, vs, hv, os⟩ := E2.list_at hj2 (π := []) rfl
  refine .inl ⟨a, vs, rfl, .inl (.inl hv), fun p hp => ?_⟩
  obtain ⟨E3, e3⟩ := E2.alloc (o := .lst (cutV vs lo hi)) hp
  have ne : ∀ b, b ∈ fps ts → upd F2 p (.lst (cutV vs lo hi)) b = none ∧ upd H2 p (.lst (cutV vs lo hi)) b = H2 b := fun b hb => by
    obtain ⟨k1, o, k2⟩ := os.live hb
    have : b ≠ p := fun z => by rw [z, hp] at k2; cases k2
    rw [upd_ne this, upd_ne this]
    exact ⟨k1, rfl⟩
  have os3 := os.mono e3 ne
  refine q2 _ _ σ E3 _ fun w y F4 H4 ρ4 E4 e4 ry ⟨hj4, ⟨n1, n2, s1, s2⟩, q4⟩ => ?_
  obtain ⟨_, vs4, hv4, os4⟩ := E4.list_at hj4 (π := []) rfl
  have os5 := (OtA.swap e4 os3 os4).cut lo hi
  have hd5 : areD (cutD ts lo hi) = true := areD_sub hd _ fun u hu => cutD_in hu
  have rp : Rp K H4 (.ref p) (.list (cutD (datas ts) lo hi)) := by
    rw [← datas_cut]
    exact .lst (E4.fh _ _ (e4 _ _ upd_same)) (os5.rp E4.fh hd5 fun _ _ => rfl)
  exact hop _ _ _ _ H4 _ (rp.dp (Ex.refl H4) n1) (Rp.dp E4.fh ry n2) s1 s2 (k _ _ F4 H4 ρ4 E4 (((e1.trans e2).trans e3).trans e4) (.bl _) q4)
theorem wd_eqSlT {j : Nat} {a : Addr} {ts0 : List OT} {t1 t2 : TO} (hj : ρ[j]? = some (some (.deep (.lst a ts0))))
    (h : WO B K t1 ρ fun lo ρ1 => WO B K t2 ρ1 fun hi ρ2 => ∃ ts, ρ2[j]? = some (some (.deep (.lst a ts))) ∧ areD ts = true ∧ WD B K tb ρ2 fun y ρ3 => ρ3[j]? = some (some (.deep (.lst a ts))) ∧ (noD (.list (cutD (datas ts) lo hi)) = true ∧ noD y = true ∧ SeqAt.shaped (.list (cutD (datas ts) lo hi)) = true ∧ SeqAt.shaped y = true) ∧ QD (.bool (PyData.eqv (.list (cutD (datas ts) lo hi)) y)) ρ3) :
    WD B K (tOp (rEqD K) (tSl (rSlAny K) (tVar j) t1 t2) tb) ρ QD := wd_sl2T (fun b => b) (fun v w x y H QQ d1 d2 s1 s2 q => ⟨x, y, d1, d2, s1, s2, q⟩) hj h
theorem wd_neSlT {j : Nat} {a : Addr} {ts0 : List OT} {t1 t2 : TO} (hj : ρ[j]? = some (some (.deep (.lst a ts0))))
    (h : WO B K t1 ρ fun lo ρ1 => WO B K t2 ρ1 fun hi ρ2 => ∃ ts, ρ2[j]? = some (some (.deep (.lst a ts))) ∧ areD ts = true ∧ WD B K tb ρ2 fun y ρ3 => ρ3[j]? = some (some (.deep (.lst a ts))) ∧ (noD (.list (cutD (datas ts) lo hi)) = true ∧ noD y = true ∧ SeqAt.shaped (.list (cutD (datas ts) lo hi)) = true ∧ SeqAt.shaped y = true) ∧ QD (.bool (!PyData.eqv (.list (cutD (datas ts) lo hi)) y)) ρ3) :
    WD B K (tOp (rNeD K) (tSl (rSlAny K) (tVar j) t1 t2) tb) ρ QD := wd_sl2T (fun b => !b) (fun v w x y H QQ d1 d2 s1 s2 q => ⟨x, y, d1, d2, s1, s2, q⟩) hj h
/-- over an own list of own things: the name holds where each stands -/
theorem ws_forP {i j : Nat} {a : Addr} {ts : List OT} {tS : TS} (hp : NP B i) (hj : ρ[j]? = some (some (.deep (.lst a ts)))) (I : List OT → En → Prop) (ic : ∀ pre ρ', I pre ρ' → ρ'[j]? = some (some (.deep (.lst a ts)))) (i0 : I [] ρ)
    (is : ∀ pre u post ρ2 l, ts = pre ++ u :: post → I pre ρ2 → u.r.toL = some l → WS B K tS (ρ2.set i (some l)) (Z.lp (I (pre ++ [u])))) (id : ∀ ρ2, I ts ρ2 → Z.nx ρ2) : WS B K (tFor (iList K (tVar j)) (gName i) tS) ρ Z := fun F H σ E D ok => by
  obtain ⟨v, e, s, nd⟩ := E.sl j _ hj
  have ev : v = .ref a := by cases s; rfl
  subst ev
  obtain ⟨_, vs, hv, os⟩ := E.list_at hj (π := []) rfl
  have sq : ∀ {F H σ ρ'}, EnvOk B K F H σ ρ' → ρ'[j]? = some (some (.deep (.lst a ts))) → ∃ vs, H a = some (.lst vs) ∧ OtA K F H vs ts := fun E h => (E.list_at h (π := []) rfl).2
  refine ⟨.ref a, e, a, rfl, ⟨vs, .inl (.inl hv)⟩, ?_⟩
  refine ⟨fun n m σ H => m = ts.length - n ∧ n ≤ ts.length ∧ ∃ F' ρ', EnvOk B K F' H σ ρ' ∧ Ex F F' ∧ I (ts.take n) ρ', ⟨ts.length, (Nat.sub_zero _).symm, Nat.zero_le _, F, ρ, E, Ex.refl F, i0⟩, ?_⟩
  rintro n m σ2 H2 ⟨rfl, hn, F2, ρ2, E2, e2, q⟩
  obtain ⟨ws, hw, osw⟩ := sq E2 (ic _ _ q)
  by_cases hlt : n < ts.length
  · have ea : ts[n]? = some ts[n] := List.getElem?_eq_getElem hlt
    obtain ⟨w, hw2, ow⟩ := osw.get' ea
    refine .inr ⟨⟨ws, w, .inl (.inl hw), hw2⟩, fun σ' H' => ∃ F' ρ', EnvOk B K F' H' σ' ρ' ∧ Ex F F' ∧ I (ts.take (n + 1)) ρ', fun σ' H' p' => ⟨ts.length - (n + 1), by omega, rfl, hlt, p'⟩, fun x H' y => ?_⟩
    obtain ⟨rfl, hy⟩ := y
    have hx := hy ws (.inl (.inl hw))
    rw [hw2] at hx
    cases hx
    have key : ∃ l, (ts[n]).r.toL = some l ∧ SlotOk K F2 H' w l ∧ l.pl = true := by
      generalize ts[n] = u at ow
      cases ow with
      | d h => exact ⟨_, rfl, h, rfl⟩
      | lst _ _ _ => exact ⟨_, rfl, rfl, rfl⟩
      | tup _ _ _ => exact ⟨_, rfl, rfl, rfl⟩
      | dct _ _ _ _ => exact ⟨_, rfl, rfl, rfl⟩
    obtain ⟨l, hl, sl, pl⟩ := key
    have E3 := E2.setD (i := i) sl pl hp
    have fin := is (ts.take n) ts[n] (ts.drop (n + 1)) ρ2 l (split_at ea) q hl F2 H' _ E3
    exact fin { D with nx := fun σ' H' => ∃ F' ρ', EnvOk B K F' H' σ' ρ' ∧ Ex F F' ∧ I (ts.take (n + 1)) ρ', ct := fun σ' H' => ∃ F' ρ', EnvOk B K F' H' σ' ρ' ∧ Ex F F' ∧ I (ts.take (n + 1)) ρ', bk := D.nx }
      ⟨fun F4 H4 σ4 ρ4 E4 e4 q4 => ⟨F4, ρ4, E4, e2.trans e4, by rw [take_snoc ea]; exact q4⟩, fun F4 H4 σ4 ρ4 v4 r4 E4 e4 rv4 q4 => ok.rt F4 H4 σ4 ρ4 v4 r4 E4 (e2.trans e4) rv4 q4,
       fun F4 H4 σ4 ρ4 E4 e4 q4 => ok.nx F4 H4 σ4 ρ4 E4 (e2.trans e4) q4, fun F4 H4 σ4 ρ4 E4 e4 q4 => ⟨F4, ρ4, E4, e2.trans e4, by rw [take_snoc ea]; exact q4⟩⟩
  · have en : n = ts.length := by omega
    subst en
    exact .inl ⟨⟨ws, .inl (.inl hw), by rw [osw.length]; exact Nat.le_refl _⟩, ok.nx F2 H2 σ2 ρ2 E2 e2 (id ρ2 (by rw [List.take_length] at q; exact q))⟩
end
end SV

set_option maxHeartbeats 1000000
namespace SV
open PySem PySem.Spec L2
open Evl (Ex)
/-! ### a comprehension over an own dict's keys; the dict may be read within -/
def CompB (PB : Bs → Prop) {α : Type} (K : Fr) (g : TG) (tt : TT) (te : TE) (vs : List Nat) (f : α → PyData) (as : List α) (ρ : En) (P : α → Option PyData → Prop) : Prop :=
  ∀ a, a ∈ as → ∀ B : Bs, B.pin.map Prod.fst = none → PB B → WG B K g (f a) (wipeE (hide ρ) vs) fun ρ2 => WT B K tt ρ2 fun b ρ3 => (b = true → WD B K te ρ3 fun y _ => P a (some y)) ∧ (b = false → P a none)
section
variable {B : Bs} {K : Fr} {ρ : En} {te : TE} {Q : R → En → Prop} {QD : PyData → En → Prop} {Z : Zs}
theorem lc_genB {α : Type} {J : It} {g : TG} {tt : TT} {vs : List Nat} {f : α → PyData} {as : List α} {P : α → Option PyData → Prop} {F0 F1 H1 : Hp} {σ : L2.St} {ρ1 : En} {QQ : VK} (PB : Bs → Prop) (gv : GV g vs) (E1 : EnvOk B K F1 H1 σ ρ1) (e1 : Ex F0 F1) (hz : as.length ≤ lim)
    (pb : ∀ F H, EnvOk B K F H σ ρ1 → Ex F1 F → PB ⟨F, H, none⟩)
    (go : ∀ (i : Nat) (a : α) F H, as[i]? = some a → EnvOk B K F H σ ρ1 → J.go i H)
    (stop : ∀ (i : Nat) F H, as.length ≤ i → EnvOk B K F H σ ρ1 → J.stop i H)
    (yld : ∀ (i : Nat) (a : α) F H x H', as[i]? = some a → EnvOk B K F H σ ρ1 → Ex F1 F → J.yld i H x H' → H' = H ∧ Rp K F x (f a))
    (h : CompB PB K g tt te vs f as ρ1 P) (k : ∀ v F' H' ys, EnvOk B K F' H' σ ρ1 → Ex F0 F' → ROk B K F' H' σ ρ1 v (.new ys) → Sel P as ys → QQ v H') :
    ∀ D, H1 D = none → ∃ W : Nat → Nat → Hp → Prop, (∃ m, W 0 m (upd H1 D (.lst []))) ∧ ∀ i m H, W i m H →
      (J.stop i H ∧ QQ (.ref D) H) ∨ (J.go i H ∧ ∃ Nx : Hp → Prop, (∀ H', Nx H' → ∃ m', m' < m ∧ W (i + 1) m' H') ∧ ∀ x H', J.yld i H x H' → g x (wipe σ vs) H' fun σ2 H2 => wipe σ2 vs = wipe σ vs ∧ tt σ2 H2 fun b H3 =>
        if b = true then te σ2 H3 fun y H4 => ∃ acc, H4 D = some (.lst acc) ∧ acc.length < sizeLine ∧ Nx (upd H4 D (.lst (acc ++ [y]))) else Nx H3) := by
  intro D hD
  have hs : ∀ i, ¬ SFp σ ρ1 i D := fun i => E1.fr hD i
  have h0 : B.H0 D = none := E1.h0p hD
  refine ⟨fun i m H => m = as.length - i ∧ i ≤ as.length ∧ ∃ F acc ys, EnvOk B K F H σ ρ1 ∧ Ex F1 F ∧ F D = none ∧ H D = some (.lst acc) ∧ RpA K F acc ys ∧ Sel P (as.take i) ys,
    ⟨as.length, (Nat.sub_zero _).symm, Nat.zero_le _, F1, [], [], E1.allocO hD, Ex.refl F1, E1.fh.free hD, upd_same, .nil, .nil⟩, ?_⟩
  rintro i m H2 ⟨rfl, hi, F2, acc, ys, E2, e2, fD, hD2, ra, sel⟩
  by_cases hlt : i < as.length
  · have ea : as[i]? = some as[i] := List.getElem?_eq_getElem hlt
    refine .inr ⟨go i _ F2 H2 ea E2, fun H' => ∃ F acc ys, EnvOk B K F H' σ ρ1 ∧ Ex F1 F ∧ F D = none ∧ H' D = some (.lst acc) ∧ RpA K F acc ys ∧ Sel P (as.take (i + 1)) ys, fun H' p' => ⟨as.length - (i + 1), by omega, rfl, hlt, p'⟩, fun x H' y => ?_⟩
    obtain ⟨eH, rx⟩ := yld i _ F2 H2 x H' ea E2 e2 y
    subst eH
    refine gv.stay (h as[i] (List.getElem_mem hlt) ⟨F2, H', none⟩ rfl (pb F2 H' E2 e2) F2 H' _ x (E2.inner vs) rx (fun σ2 H3 => tt σ2 H3 fun b H4 => if b = true then te σ2 H4 fun y H5 => ∃ acc, H5 D = some (.lst acc) ∧ acc.length < sizeLine ∧ ∃ F acc' ys, EnvOk B K F (upd H5 D (.lst (acc ++ [y]))) σ ρ1 ∧ Ex F1 F ∧ F D = none ∧ (upd H5 D (.lst (acc ++ [y]))) D = some (.lst acc') ∧ RpA K F acc' ys ∧ Sel P (as.take (i + 1)) ys
      else ∃ F acc ys, EnvOk B K F H4 σ ρ1 ∧ Ex F1 F ∧ F D = none ∧ H4 D = some (.lst acc) ∧ RpA K F acc ys ∧ Sel P (as.take (i + 1)) ys) fun F3 H3 σ3 ρ3 E3 e3 q3 => ?_) fun σ3 H3 hl hk q => ⟨wipe_eq (by rw [hl, wipe_length]) hk, q⟩
    refine q3 F3 H3 σ3 E3 _ fun b F4 H4 ρ4 E4 e4 q4 => ?_
    cases b with
    | true =>
      refine q4.1 rfl F4 H4 σ3 E4 _ fun v y F5 H5 ρ5 E5 e5 rv q5 => ?_
      have st := E5.st.stp
      have E6 := E2.step st
      have hD5 := st.eh D _ hD2
      have fD5 := st.nf D fD (by rw [hD2]; exact fun z => nomatch z)
      refine ⟨acc, hD5, ?_, F5, acc ++ [v], ys ++ [y], E6.poke fD5 h0 hs, e2.trans st.ef, fD5, upd_same, (ra.mono st.ef).append (.cons rv .nil), ?_⟩
      · have l1 := sel.len
        rw [List.length_take] at l1
        rw [ra.length]
        exact lim_lt (by omega)
      · rw [take_snoc ea]
        exact .yes sel q5
    | false =>
      have st := E4.st.stp
      have E6 := E2.step st
      refine ⟨F4, acc, ys, E6, e2.trans st.ef, st.nf D fD (by rw [hD2]; exact fun z => nomatch z), st.eh D _ hD2, ra.mono st.ef, ?_⟩
      rw [take_snoc ea]
      exact .no sel (q4.2 rfl)
  · have e : i = as.length := by omega
    subst e
    rw [List.take_length] at sel
    exact .inl ⟨stop _ F2 H2 (Nat.le_refl _) E2, k _ F2 H2 ys E2 (e1.trans e2) ⟨D, acc, rfl, fD, hD2, ra, h0, hs⟩ sel⟩
/-- a locked dict stands at d -/
def DAt (K : Fr) (d : Addr) (ks : List Key) (xs : List PyData) (B : Bs) : Prop := ks.length = xs.length ∧ ∃ od vs, B.H0 d = some (.frz od (.dK (ks.zip vs))) ∧ RpA K B.F0 vs xs
theorem wd_dgetF {j : Nat} {d : Addr} {ks : List Key} {xs : List PyData} {ty : TE} (hpin : B.pin.map Prod.fst = none) (hD : DAt K d ks xs B) (hj : ρ[j]? = some (some (.raw (.ref d)))) (h : WD B K ty ρ fun y ρ1 => ∃ k x, y = keyD k ∧ getK ks xs k = some x ∧ QD x ρ1) : WD B K (tDGet (tVar j) ty) ρ QD := fun F H σ E QQ kk => by
  obtain ⟨v, e, s⟩ := E.sl j _ hj
  cases (show v = .ref d from s)
  refine ⟨.ref d, e, h F H σ E _ fun v y F1 H1 ρ1 E1 e1 rv ⟨k, x, hy, hx, q⟩ => ?_⟩
  subst hy
  rw [rp_key rv]
  obtain ⟨hl, od, vs, hd, ra⟩ := hD
  have np : B.pin = none := by
    cases e : B.pin with
    | none => rfl
    | some p => rw [e] at hpin; cases hpin
  have hd1 := E1.st.h0 d _ hd (fun i z => by rw [np] at z; cases z)
  have ra1 := ra.mono E1.st.f0
  obtain ⟨w, hw, rw'⟩ := (ra1.getK (ks := ks) (k := k)).1 x hx
  exact ⟨d, w, rfl, .inl ⟨_, k, .inr ⟨od, hd1⟩, rfl, by rw [valV_get, hw]⟩, kk _ _ F1 H1 ρ1 E1 e1 rw' q⟩
theorem we_lcKeys {j : Nat} {g : TG} {tt : TT} {vs : List Nat} {ks : List Key} {xs : List PyData} (P : Key → Option PyData → Prop) (gv : GV g vs) (hj : ρ[j]? = some (some (.ownD ks xs))) (np : NP B j) (hz : ks.length ≤ lim)
    (hc : ∀ d, CompB (DAt K d ks xs) K g tt te vs keyD ks (ρ.set j (some (.raw (.ref d)))) P) (q : ∀ ys, Sel P ks ys → Q (.new ys) ρ) :
    WE B K (tLockE (tLc (iKeys (tVar j)) g tt te vs)) ρ Q := fun F H σ E QQ kk => by
  obtain ⟨v, e, E1, ⟨d, ws, rfl, fd, hd, hkl, ra⟩, hf⟩ := E.giveL hj np
  obtain ⟨h0d, hsd⟩ := hf d rfl
  refine ⟨d, _, hd, True.intro, fun od => ?_⟩
  -- the locked heap
  have E2 := E1.poke (o := .frz od (.dK (ks.zip ws))) fd h0d hsd
  have hl : j < σ.length := (List.getElem?_eq_some_iff.mp e).1
  have eσ : σ.set j (some (.ref d)) = σ := by
    refine List.ext_getElem? fun i => ?_
    by_cases c : i = j
    · subst c; rw [List.getElem?_set_self hl, e]
    · rw [List.getElem?_set_ne (Ne.symm c)]
  have E3 := E2.setD (i := j) (l := .raw (.ref d)) (v := .ref d) rfl rfl np
  rw [eσ, List.set_set] at E3
  have fr3 : Free B σ (ρ.set j (some (.raw (.ref d)))) [d] := fun a ha => by
    rw [List.mem_singleton.mp ha]
    refine ⟨h0d, fun i ⟨m, w, q1, q2, q3⟩ => ?_⟩
    rcases set_cases q1 with ⟨rfl, _, ee⟩ | ⟨n, ee⟩
    · cases ee; exact q3
    · refine hsd i ⟨m, w, ?_, q2, q3⟩
      rw [List.getElem?_set_ne (Ne.symm n)]
      exact ee
  have lv : ∀ a, a ∈ [d] → F a = none ∧ ∃ o, upd H d (.frz od (.dK (ks.zip ws))) a = some o := fun a ha => by rw [List.mem_singleton.mp ha]; exact ⟨fd, _, upd_same⟩
  obtain ⟨g1, g2⟩ := E3.guard fr3 lv
  have hdl : ∀ F' H', EnvOk ⟨F, gdH B (upd H d (.frz od (.dK (ks.zip ws)))) [d], B.pin⟩ K F' H' σ (ρ.set j (some (.raw (.ref d)))) → H' d = some (.frz od (.dK (ks.zip ws))) := fun F' H' E' => by
    obtain ⟨_, keep, _⟩ := g2 F' H' _ E'
    rw [(keep d List.mem_cons_self).2, upd_same]
  have hzl : (ks.zip ws).length = ks.length := by rw [List.length_zip, ra.length, ← hkl, Nat.min_self]
  have hgk : ∀ (i : Nat) (k : Key), ks[i]? = some k → ∃ w, (ks.zip ws)[i]? = some (k, w) := fun i k hk => by
    have hi := (List.getElem?_eq_some_iff.mp hk).1
    have hiw : i < ws.length := by rw [ra.length, ← hkl]; exact hi
    exact ⟨ws[i], List.getElem?_zip_eq_some.mpr ⟨hk, List.getElem?_eq_getElem hiw⟩⟩
  refine ⟨.ref d, e, d, od, rfl, .inl ⟨_, upd_same, lc_genB (QQ := fun v H' => H' d = some (HO.frz od (HO.dK (ks.zip ws))) ∧ QQ v (upd H' d (HO.dK (ks.zip ws)))) (J := Itk d od (ks.zip ws)) (f := keyD) (as := ks) (P := P) (DAt K d ks xs) gv g1 (Ex.refl F) hz (fun F' H' E' e' => ⟨hkl, od, ws, hdl F' H' E', ra.mono e'⟩) (fun i k F' H' hk E' => ⟨hdl F' H' E', by rw [hzl]; exact (List.getElem?_eq_some_iff.mp hk).1⟩) (fun i F' H' hi E' => ⟨hdl F' H' E', by rw [hzl]; exact hi⟩) (fun i k F' H' x H2 hk E' e' y => ?_) (hc d) fun v F' H' ys E' e' rv sel => ?_⟩⟩
  · obtain ⟨eH, k2, w2, hk2, rfl⟩ := y
    obtain ⟨w, hw⟩ := hgk i k hk
    rw [hw] at hk2
    cases hk2
    exact ⟨eH, key_rp k⟩
  · refine ⟨hdl F' H' E', ?_⟩
    obtain ⟨E4, keep, fr4⟩ := g2 F' H' _ E'
    have fd4 := (keep d List.mem_cons_self).1
    have E5 := E4.poke (o := .dK (ks.zip ws)) fd4 h0d (fr4 d List.mem_cons_self).2
    have rvd : ROk B K F' (upd H' d (.dK (ks.zip ws))) σ (ρ.set j (some (.raw (.ref d)))) (.ref d) (.newD ks xs) := ⟨d, ws, rfl, fd4, upd_same, hkl, ra.mono e', h0d, (fr4 d List.mem_cons_self).2⟩
    have E6 := E5.setND (i := j) rvd np
    have hjl : j < ρ.length := (List.getElem?_eq_some_iff.mp hj).1
    have eρ : ρ.set j (some (.ownD ks xs)) = ρ := by
      refine List.ext_getElem? fun i => ?_
      by_cases c : i = j
      · subst c; rw [List.getElem?_set_self hjl, hj]
      · rw [List.getElem?_set_ne (Ne.symm c)]
    rw [eσ, List.set_set, eρ] at E6
    refine kk v (.new ys) F' _ ρ E6 e' ?_ (q ys sel)
    obtain ⟨a, us, ev, f1, f2, f3, f4, f5⟩ := rv
    have hne : a ≠ d := fun z => by
      rw [z, hdl F' H' E'] at f2
      cases f2
    refine ⟨a, us, ev, f1, (upd_ne hne).trans f2, f3, ?_, fun i ⟨m, w, q1, q2, q3⟩ => ?_⟩
    · have f4' : gdH B (upd H d (.frz od (.dK (ks.zip ws)))) [d] a = none := f4
      unfold gdH at f4'
      rw [if_neg (fun z => hne (List.mem_singleton.mp z))] at f4'
      exact f4'
    · by_cases c : i = j
      · subst c
        rw [hj] at q1
        cases q1
        rw [e] at q2
        cases q2
        cases (show V.ref d = V.ref a from q3)
        exact hne rfl
      · exact f5 i ⟨m, w, by rw [List.getElem?_set_ne (Ne.symm c)]; exact q1, q2, q3⟩
/-! ### sorted(d), d an own dict whose keys are ints -/
abbrev rSortDI : List V → Hp → VK → Prop := fun xs H Q => ∃ (a : Addr) (kvs : List (Key × V)) (ks : List Int), xs = [.ref a] ∧ Rd H a (.dK kvs) ∧ kvs.map (·.1) = ks.map Sum.inl ∧ ks.length < 64 ∧
    ∀ (ys : List Int) (p : Addr), ys.Perm ks → ys.Pairwise (· ≤ ·) → H p = none → Q (.ref p) (upd H p (.lst (ys.map V.int)))
theorem k_sortDI {X : Cx} (hc : X.calm = true) : CallR X (.builtin "sorted") rSortDI := call_sortedDI hc
theorem we_sortDI {j : Nat} {ns : List Int} {xs : List PyData} (hj : ρ[j]? = some (some (.ownD (ns.map Sum.inl) xs))) (hn : ns.length < 64) (q : ∀ ns' : List Int, ns'.Perm ns → ns'.Pairwise (· ≤ ·) → Q (.new (ns'.map .int)) ρ) :
    WE B K (tCB rSortDI (tCons (tVar j) tNil)) ρ Q := fun F H σ E QQ kk => by
  obtain ⟨a, vs, ha, f1, f2, hl, f3⟩ := E.ownD_at hj
  refine ⟨.ref a, ha, a, _, ns, rfl, .inl f2, ?_, hn, fun ys p pm pw hp => ?_⟩
  · rw [List.map_fst_zip]
    rw [f3.length, hl]
    exact Nat.le_refl _
  · obtain ⟨E2, r2⟩ := new_ok E hp (RpA.of_ints (K := K) (F := F) ys)
    exact kk _ _ F _ ρ E2 (Ex.refl F) r2 (q ys pm pw)
end
end SV

set_option maxHeartbeats 4000000
set_option hygiene false
local macro_rules | `(tactic| walk_at "okd") => `(tactic| with_reducible first | exact SV.OkD.int _ | exact SV.OkD.bool _ | exact SV.OkD.none | exact SV.OkD.nil | assumption | exact SV.OkD.ints _ | exact SV.OkD.strs (by assumption))
local macro_rules | `(tactic| walk_at "nob") => `(tactic| first | with_reducible assumption | with_reducible exact SV.noB_strs _ | with_reducible exact SV.noB_ints _ | rfl)
local macro_rules | `(tactic| walk_at "sn1") => `(tactic| first
  | ((with_reducible refine' SV.ws_retO ?h ?h2 ?_); (case h => exact rfl); (case h2 => exact SV.np_of (by assumption) (by decide)))
  | ((with_reducible refine' SV.ws_retT ?h ?h2 ?_); (case h => exact rfl); (case h2 => exact SV.np_of (by assumption) (by decide)))
  | ((with_reducible refine' SV.ws_retD ?h ?h2 ?_); (case h => exact rfl); (case h2 => exact SV.np_of (by assumption) (by decide)))
  | (with_reducible refine SV.ws_seq ?_)
  | (with_reducible refine SV.ws_for1 ?_)
  | (with_reducible refine SV.ws_for2 ?_)
  | (with_reducible refine SV.ws_ret ?_)
  | (with_reducible refine SV.ws_retN ?_)
  | (with_reducible refine SV.ws_drop ?_)
  | (with_reducible refine SV.ws_next ?_)
  | (with_reducible refine SV.ws_cont ?_)
  | (with_reducible refine SV.ws_brk ?_)
  | ((with_reducible refine' SV.ws_asgO ?h ?_); (case h => exact SV.np_of (by assumption) (by decide)))
  | ((with_reducible refine' SV.ws_asg ?h ?_); (case h => exact SV.np_of (by assumption) (by decide)))
  | ((with_reducible refine' SV.ws_aug ?h ?h2 ?_); (case h => exact SV.np_of (by assumption) (by decide)); (case h2 => exact rfl))
  | (with_reducible refine SV.ws_setItem ?_)
  | (with_reducible refine SV.ws_asgG ?_)
  | ((with_reducible refine' SV.wg_name ?h ?_); (case h => exact SV.np_of (by assumption) (by decide)))
  | ((with_reducible refine' SV.wg_tup ?h ?_); (case h => exact rfl))
  | (with_reducible refine SV.ws_asgGX ?_)
  | ((with_reducible refine' SV.wgt_d ?h ?_); (case h => exact SV.np_of (by assumption) (by decide)))
  | ((with_reducible refine' SV.wgt_o ?h ?_); (case h => exact SV.np_of (by assumption) (by decide)))
  | (with_reducible refine SV.wgt_nil ?_)
  | (with_reducible refine ⟨_, _, rfl, rfl, (?_ : SV.WGT _ _ _ _ _ _)⟩)
  | (with_reducible refine SV.wgs_cons ?_)
  | (with_reducible refine SV.wgs_nil ?_)
  | (with_reducible refine SV.wt_test ?_)
  | (with_reducible refine SV.wt_B ?_)
  | (with_reducible refine SV.wt_and ?_)
  | (with_reducible refine SV.wt_or ?_)
  | (with_reducible refine SV.wt_not ?_)
  | (with_reducible refine SV.wt_yes ?_)
  | ((with_reducible refine' SV.wd_var ?h ?_); (case h => exact rfl))
  | ((with_reducible refine' SV.wd_frz ?h ?h2 ?_); (case h => exact rfl); (case h2 => exact SV.np_of (by assumption) (by decide)))
  | (with_reducible refine SV.wd_int ?_)
  | (with_reducible refine SV.wd_bl ?_)
  | (with_reducible refine SV.wd_str ?_)
  | (with_reducible refine SV.wd_non ?_)
  | ((with_reducible refine' SV.wd_frzT ?h ?h2 ?h3 ?_); (case h => exact rfl); (case h2 => exact SV.np_of (by assumption) (by decide)); (case h3 => exact rfl))
  | ((with_reducible refine' SV.wd_ixS ?h ?_); (case h => exact rfl))
  | ((with_reducible refine' SV.wd_ixO ?h ?_); (case h => exact rfl))
  | ((with_reducible refine' SV.wd_ixT ?h ?_); (case h => exact rfl))
  | (with_reducible refine SV.wd_ix ?_)
  | ((with_reducible refine' SV.wd_lenS ?h ?_); (case h => exact rfl))
  | ((with_reducible refine' SV.wd_lenO ?h ?_); (case h => exact rfl))
  | ((with_reducible refine' SV.wd_lenT ?h ?_); (case h => exact rfl))
  | (with_reducible refine SV.wd_len ?_)
  | (with_reducible refine SV.wd_int1 ?_)
  | (with_reducible refine SV.wd_e (SV.we_plus ?_))
  | (with_reducible refine SV.wd_chain ?_)
  | (with_reducible refine SV.wd_sub ?_)
  | (with_reducible refine SV.wd_modP ?_)
  | (with_reducible refine SV.wd_divP ?_)
  | (with_reducible refine SV.wd_pow ?_)
  | (with_reducible refine SV.wd_mulP ?_)
  | (with_reducible refine SV.wd_srep ?_)
  | (with_reducible refine SV.wd_dnew ?_)
  | (with_reducible refine SV.wd_neg ?_)
  | (with_reducible refine SV.wd_lt ?_)
  | ((with_reducible refine' SV.wd_eqO ?h ?_); (case h => exact rfl))
  | ((with_reducible refine' SV.wd_neO ?h ?_); (case h => exact rfl))
  | ((with_reducible refine' SV.wd_eqT ?h ?_); (case h => exact rfl))
  | ((with_reducible refine' SV.wd_neT ?h ?_); (case h => exact rfl))
  | ((with_reducible refine' SV.wd_neSlT ?h ?_); (case h => exact rfl))
  | ((with_reducible refine' SV.wd_eqSlT ?h ?_); (case h => exact rfl))
  | (with_reducible refine SV.wd_eqD ?_)
  | (with_reducible refine SV.wd_neD ?_)
  | (with_reducible refine SV.wd_isN ?_)
  | (with_reducible refine SV.wd_notN ?_)
  | (with_reducible refine SV.wd_tup ?_)
  | (with_reducible refine SV.wd_max2 ?_)
  | (with_reducible refine SV.wd_min2 ?_)
  | (with_reducible refine SV.wd_andV ?_)
  | (with_reducible refine SV.wd_orV ?_)
  | (with_reducible refine SV.wd_notV ?_)
  | (with_reducible refine SV.wd_niSign ?_)
  | (with_reducible refine SV.wd_inSign ?_)
  | ((with_reducible refine' SV.wd_isiT ?h ?_); (case h => exact rfl))
  | ((with_reducible refine' SV.wd_isiO ?h ?_); (case h => exact rfl))
  | (with_reducible refine SV.wd_isi_int ?_)
  | (with_reducible refine SV.wd_isi_bool ?_)
  | (with_reducible refine SV.wd_isi_str ?_)
  | (with_reducible refine SV.wd_isi_tuple ?_)
  | (with_reducible refine SV.wd_isi_list ?_)
  | (with_reducible refine SV.wd_isi_dict ?_)
  | ((with_reducible refine' SV.wd_isx ?h ?C ?k ?e ?_); (case h => exact rfl); (case C => assumption); (case k => (first | exact .ty _ | exact .own _)); (case e => assumption))
  | ((with_reducible refine' SV.wd_isxT ?h ?t ?l ?C ?e ?_); (case h => exact rfl); (case t => (first | exact (.cons (.cons (.cons (.cons (.cons (.cons (.cons (.cons .nil)))))))) | exact (.cons (.cons (.cons (.cons (.cons (.cons (.cons .nil))))))) | exact (.cons (.cons (.cons (.cons .nil)))))); (case l => exact Nat.le_of_ble_eq_true rfl); (case C => assumption); (case e => assumption))
  | (with_reducible refine SV.wd_e (SV.we_lst ?_))
  | ((with_reducible refine' SV.wd_e (SV.we_slS ?h ?_)); (case h => exact rfl))
  | ((with_reducible refine' SV.wd_e (SV.we_sl3S ?h ?_)); (case h => exact rfl))
  | ((with_reducible refine' SV.wd_e (SV.we_slO ?h ?_)); (case h => exact rfl))
  | (with_reducible refine SV.wan_last ?_)
  | (with_reducible refine SV.wan_cons ?_)
  | (with_reducible refine SV.wd_e (SV.we_split ?_))
  | (with_reducible refine SV.wd_e (SV.we_sortTI ?_))
  | (with_reducible refine SV.wd_e (SV.we_sortI ?_))
  | (with_reducible refine SV.wd_e (SV.we_sl ?_))
  | (with_reducible refine SV.wd_e (SV.we_rep ?_))
  | (with_reducible refine SV.wd_e (SV.we_callPN ?_))
  | (with_reducible refine SV.wd_e (SV.we_callF ?_))
  | (with_reducible refine SV.wd_e (SV.we_callP ?_))
  | (with_reducible refine SV.wd_e (SV.we_callFS ?_))
  | (with_reducible refine SV.wd_e (SV.we_callR ?_))
  | (with_reducible refine SV.wd_e (SV.we_callRS ?_))
  | (with_reducible refine SV.wd_e (SV.we_if ?_))
  | (with_reducible refine SV.wd_e (SV.we_list ?_))
  | ((with_reducible refine' SV.wd_e (SV.we_listO ?h ?_)); (case h => exact rfl))
  | ((with_reducible refine' SV.wd_tupOfO ?h ?_); (case h => exact rfl))
  | (with_reducible refine SV.wd_tupOf ?_)
  | (with_reducible refine SV.wd_join ?_)
  | ((with_reducible refine' SV.we_appendV ?h ?h1 ?_); (case h => exact rfl); (case h1 => exact SV.np_of (by assumption) (by decide)))
  | ((with_reducible refine' SV.wk_take ?h ?h1 ?_); (case h => exact rfl); (case h1 => exact SV.np_of (by assumption) (by decide)))
  | ((with_reducible refine' SV.wk_takeT ?h ?h1 ?_); (case h => exact rfl); (case h1 => exact SV.np_of (by assumption) (by decide)))
  | (with_reducible refine SV.wk_d ?_)
  | (with_reducible refine SV.wd_dinO ?_)
  | (with_reducible refine SV.wd_dnotinO ?_)
  | ((with_reducible refine' SV.wd_dgetO ?h ?_); (case h => exact rfl))
  | (with_reducible refine SV.ws_dputO ?_)
  | ((with_reducible refine' SV.wd_lenDO ?h ?_); (case h => exact rfl))
  | (with_reducible refine SV.we_tupX ?_)
  | (with_reducible refine SV.we_lstX ?_)
  | (with_reducible refine SV.wx_nil ?_)
  | ((with_reducible refine' SV.wx_var ?h ?_); (case h => exact rfl))
  | (with_reducible refine SV.wx_str ?_)
  | (with_reducible refine SV.wx_int ?_)
  | ((with_reducible refine' SV.wx_take ?h ?h1 ?h2 ?_); (case h => assumption); (case h1 => exact rfl); (case h2 => exact SV.np_of (by assumption) (by decide)); intro a B' hB')
  | ((with_reducible refine' SV.wx_takeT ?h ?h1 ?h2 ?_); (case h => assumption); (case h1 => exact rfl); (case h2 => exact SV.np_of (by assumption) (by decide)); intro B' hB')
  | (with_reducible refine SV.wds_cons ?_)
  | (with_reducible refine SV.wds_nil ?_)
  | ((with_reducible refine' SV.we_scr ?h ?_); (case h => exact rfl))
  | (with_reducible refine SV.we_lst ?_)
  | ((with_reducible refine' SV.we_slS ?h ?_); (case h => exact rfl))
  | ((with_reducible refine' SV.we_sl3S ?h ?_); (case h => exact rfl))
  | ((with_reducible refine' SV.we_slO ?h ?_); (case h => exact rfl))
  | (with_reducible refine SV.we_sl ?_)
  | (with_reducible refine SV.wo_none ?_)
  | (with_reducible refine SV.wo_some ?_)
  | ((with_reducible refine' SV.we_append ?h ?_); (case h => exact rfl))
  | ((with_reducible refine' SV.we_extend ?h ?_); (case h => exact rfl))
  | ((with_reducible refine' SV.we_listO ?h ?_); (case h => exact rfl))
  | (with_reducible refine SV.we_list ?_)
  | (with_reducible refine SV.we_split ?_)
  | (with_reducible refine SV.we_sortTI ?_)
  | (with_reducible refine SV.we_sortI ?_)
  | (with_reducible refine SV.we_plus ?_)
  | (with_reducible refine SV.we_rep ?_)
  | (with_reducible refine SV.we_callPN ?_)
  | (with_reducible refine SV.we_callF ?_)
  | (with_reducible refine SV.we_callP ?_)
  | (with_reducible refine SV.we_callFS ?_)
  | (with_reducible refine SV.we_callR ?_)
  | (with_reducible refine SV.we_callRS ?_)
  | (with_reducible refine SV.we_if ?_)
  | (with_reducible refine SV.wa_nil ?_)
  | (with_reducible refine SV.waf_nil ?_)
  | ((with_reducible refine' SV.waf_scr ?h ?_); (case h => exact rfl))
  | ((with_reducible refine' SV.waf_raw ?h ?_); (case h => exact rfl))
  | (with_reducible refine SV.waf_d ?_)
  | ((with_reducible refine' SV.wa_own ?h ?_); (case h => exact rfl))
  | ((with_reducible refine' SV.wa_ownT ?h ?_); (case h => exact rfl))
  | ((with_reducible refine' SV.wa_ownD ?h ?_); (case h => exact rfl))
  | ((with_reducible refine' SV.wa_e (SV.we_scr ?h ?_)); (case h => exact rfl))
  | (with_reducible refine SV.wa_d ?_)
  | (with_reducible refine SV.len_map ?_)
  | (with_reducible refine SV.len_mapT ?_)
  | (with_reducible refine SV.len_list ?_)
  | (with_reducible refine SV.len_tup ?_)
  | (with_reducible refine SV.lof_list ?_)
  | (with_reducible refine SV.lof_tup ?_)
  | (with_reducible refine SV.slc_list ?_)
  | (with_reducible refine SV.slc_tup ?_)
  | (refine SV.plus_int ?_)
  | (refine SV.plus_str ?_ ?_)
  | (refine SV.plus_list ?_ ?_)
  | (with_reducible refine SV.fk_dec (fun hc => ?_) (fun hc => ?_))
  | (with_reducible refine SV.fk_not ?_)
  | (with_reducible refine SV.fk_int (fun hc => ?_) (fun hc => ?_))
  | (with_reducible refine SV.fk_nil (fun hc => ?_) (fun hc => ?_))
  | (with_reducible refine SV.fk_str (fun hc => ?_) (fun hc => ?_))
  | (with_reducible refine SV.fk_eqv (by walk_at "nob") (by walk_at "nob") (fun hc => ?_) (fun hc => ?_))
  | (refine SV.fk_t ?_)
  | (refine SV.fk_f ?_)
  | (with_reducible refine SV.we_disp1 (fun B' hB' => ?_))
  | (with_reducible refine SV.we_dnewO ?_)
  | ((with_reducible refine' SV.we_sortDI ?h ?h2 ?_); (case h => exact rfl); (case h2 => skip))
  | (with_reducible refine SV.we_d ?_)
  | (refine SV.idx_list rfl ?_)
  | (refine SV.idx_tup rfl ?_)
  | (refine And.intro (show SV.atomD _ = true from rfl) ?_)
  | (refine ⟨fun (_ : Addr) => False, rfl, ?_, fun C (h : False) => (h.elim : SV.EK _ _ L2.E0 C)⟩)
  | ((with_reducible refine' ⟨_, ?h, ?_⟩); (case h => exact rfl))
  | (refine ⟨⟨_, rfl⟩, ?_⟩)
  | (refine ⟨⟨_, _, rfl⟩, ?_⟩)
  | (refine ⟨_, _, _, rfl, rfl, rfl, ?_⟩)
  | (refine ⟨Sum.inl _, _, _, rfl, rfl, ?_⟩)
  | (refine And.intro ?hs ?_; (case hs => (first | omega | (simp only [List.length_cons, List.length_nil, List.length_append, List.length_map, SV.lim]; omega) | exact Or.inl ⟨by omega, by omega⟩ | exact Or.inr ⟨by omega, by omega⟩ | exact SV.ok2 (by walk_at "okd") (by walk_at "okd") | exact SV.ok2O (by walk_at "okd") (by walk_at "okd"))))
  | (refine ⟨_, fun _ => False, rfl, ?_, fun C (h : False) => (h.elim : SV.EK _ _ L2.E0 C)⟩)
  | (refine ⟨[], _, _, _, _, _, fun _ => False, rfl, rfl, rfl, rfl, rfl, ?_, fun C (h : False) => (h.elim : SV.EK _ _ L2.E0 C)⟩)
  | (refine ⟨[_], [], _, _, _, _, fun _ => False, rfl, rfl, rfl, rfl, rfl, ?_, fun C (h : False) => (h.elim : SV.EK _ _ L2.E0 C)⟩)
  | fail)
local macro_rules | `(tactic| walk_at "sn") => `(tactic| repeat' (walk_at "sn1"))
local macro_rules | `(tactic| walk_at "sv1") => `(tactic| first | (with_reducible refine SV.ws_if ?_) | walk_at "sn1")
local macro_rules | `(tactic| walk_at "sv") => `(tactic| repeat' (walk_at "sv1"))
set_option hygiene true

namespace SV
open PySem PySem.Spec L2
open Evl (Ex)
def topS (i : Nat) : Stmt := PySem.Challenge.pw_pagepart_k72_whole_no_way_puts_more.main.body.getD i (.Pass ⟨0, 0, 0, 0⟩)
abbrev s_is_word : Stmt := topS 7
abbrev N_is_word : List Str := ["thing", "sign"]
theorem sc_is_word : FnScope N_is_word ["thing"] (defScope s_is_word) := ⟨rfl, rfl, rfl, by decide +kernel, rfl, by decide +kernel, by decide +kernel⟩
abbrev s_need_words : Stmt := topS 8
abbrev N_need_words : List Str := ["things", "thing"]
theorem sc_need_words : FnScope N_need_words ["things"] (defScope s_need_words) := ⟨rfl, rfl, rfl, by decide +kernel, rfl, by decide +kernel, by decide +kernel⟩
abbrev s_is_room : Stmt := topS 10
abbrev N_is_room : List Str := ["thing", "number"]
theorem sc_is_room : FnScope N_is_room ["thing"] (defScope s_is_room) := ⟨rfl, rfl, rfl, by decide +kernel, rfl, by decide +kernel, by decide +kernel⟩
abbrev s_need_rooms : Stmt := topS 11
abbrev N_need_rooms : List Str := ["things", "thing"]
theorem sc_need_rooms : FnScope N_need_rooms ["things"] (defScope s_need_rooms) := ⟨rfl, rfl, rfl, by decide +kernel, rfl, by decide +kernel, by decide +kernel⟩
abbrev s_filled : Stmt := topS 12
abbrev N_filled : List Str := ["words", "at", "wide", "high", "found"]
theorem sc_filled : FnScope N_filled ["words", "at", "wide", "high"] (defScope s_filled) := ⟨rfl, rfl, rfl, by decide +kernel, rfl, by decide +kernel, by decide +kernel⟩
abbrev s_poured : Stmt := topS 13
abbrev N_poured : List Str := ["words", "rooms", "told", "at", "wide", "high", "found"]
theorem sc_poured : FnScope N_poured ["words", "rooms"] (defScope s_poured) := ⟨rfl, rfl, rfl, by decide +kernel, rfl, by decide +kernel, by decide +kernel⟩
abbrev s_law_cell_at : Stmt := topS 15
abbrev N_law_cell_at : List Str := ["script", "k"]
theorem sc_law_cell_at : FnScope N_law_cell_at ["script", "k"] (defScope s_law_cell_at) := ⟨rfl, rfl, rfl, by decide +kernel, rfl, by decide +kernel, by decide +kernel⟩
abbrev s_law_take : Stmt := topS 16
abbrev N_law_take : List Str := ["deck", "many", "found", "number"]
theorem sc_law_take : FnScope N_law_take ["deck", "many"] (defScope s_law_take) := ⟨rfl, rfl, rfl, by decide +kernel, rfl, by decide +kernel, by decide +kernel⟩
abbrev s_law_word : Stmt := topS 17
abbrev N_law_word : List Str := ["cell", "way", "some", "deck", "most", "word", "j"]
theorem sc_law_word : FnScope N_law_word ["cell", "way"] (defScope s_law_word) := ⟨rfl, rfl, rfl, by decide +kernel, rfl, by decide +kernel, by decide +kernel⟩
abbrev s_law_rooms : Stmt := topS 18
abbrev N_law_rooms : List Str := ["script", "found", "deck", "k"]
theorem sc_law_rooms : FnScope N_law_rooms ["script"] (defScope s_law_rooms) := ⟨rfl, rfl, rfl, by decide +kernel, rfl, by decide +kernel, by decide +kernel⟩
abbrev s_law_reached : Stmt := topS 19
abbrev N_law_reached : List Str := ["words", "first", "wide", "high", "least", "last", "used", "begin"]
theorem sc_law_reached : FnScope N_law_reached ["words", "first", "wide", "high"] (defScope s_law_reached) := ⟨rfl, rfl, rfl, by decide +kernel, rfl, by decide +kernel, by decide +kernel⟩
abbrev s_law : Stmt := topS 20
abbrev N_law : List Str := ["script", "way", "cells", "k", "words", "cell", "some", "found", "ways", "put", "wide", "high", "came", "first", "last", "one"]
theorem sc_law : FnScope N_law ["script"] (defScope s_law) := ⟨rfl, rfl, rfl, by decide +kernel, rfl, by decide +kernel, by decide +kernel⟩
structure Txt (K : Fr) (mg : Str → Option Value) where
  b_ValueError : mg "ValueError" = none
  b_bool : mg "bool" = none
  b_int : mg "int" = none
  b_isinstance : mg "isinstance" = none
  b_len : mg "len" = none
  b_list : mg "list" = none
  b_max : mg "max" = none
  b_min : mg "min" = none
  b_range : mg "range" = none
  b_sorted : mg "sorted" = none
  b_str : mg "str" = none
  b_sum : mg "sum" = none
  b_tuple : mg "tuple" = none
  t_MOST_SIGNS : Tok
  c_MOST_SIGNS : mg "MOST_SIGNS" = some (.int 12 t_MOST_SIGNS)
  t_SIGNS : Tok
  c_SIGNS : mg "SIGNS" = some (.str "!\"#$&'()*+,-./0123456789:;<=>?@ABCDEFGHIJKLMNOPQRSTUVWXYZ[\\]^_`abcdefghijklmnopqrstuvwxyz{|}~" t_SIGNS)
  a_PartError : Addr
  PartError : ExcT K mg "PartError" a_PartError
  a_NoNeeds : Addr
  NoNeeds : ExcT K mg "NoNeeds" a_NoNeeds
  a_NoTexts : Addr
  NoTexts : ExcT K mg "NoTexts" a_NoTexts
  f_is_word : Addr
  fd_is_word : FuncData
  d_is_word : Df K mg "is_word" s_is_word ["thing"] f_is_word fd_is_word
  f_need_words : Addr
  fd_need_words : FuncData
  d_need_words : Df K mg "need_words" s_need_words ["things"] f_need_words fd_need_words
  f_is_room : Addr
  fd_is_room : FuncData
  d_is_room : Df K mg "is_room" s_is_room ["thing"] f_is_room fd_is_room
  f_need_rooms : Addr
  fd_need_rooms : FuncData
  d_need_rooms : Df K mg "need_rooms" s_need_rooms ["things"] f_need_rooms fd_need_rooms
  f_filled : Addr
  fd_filled : FuncData
  d_filled : Df K mg "filled" s_filled ["words", "at", "wide", "high"] f_filled fd_filled
  f_poured : Addr
  fd_poured : FuncData
  d_poured : Df K mg "poured" s_poured ["words", "rooms"] f_poured fd_poured
  f_law_cell_at : Addr
  fd_law_cell_at : FuncData
  d_law_cell_at : Df K mg "_law_cell_at" s_law_cell_at ["script", "k"] f_law_cell_at fd_law_cell_at
  f_law_take : Addr
  fd_law_take : FuncData
  d_law_take : Df K mg "_law_take" s_law_take ["deck", "many"] f_law_take fd_law_take
  f_law_word : Addr
  fd_law_word : FuncData
  d_law_word : Df K mg "_law_word" s_law_word ["cell", "way"] f_law_word fd_law_word
  f_law_rooms : Addr
  fd_law_rooms : FuncData
  d_law_rooms : Df K mg "_law_rooms" s_law_rooms ["script"] f_law_rooms fd_law_rooms
  f_law_reached : Addr
  fd_law_reached : FuncData
  d_law_reached : Df K mg "_law_reached" s_law_reached ["words", "first", "wide", "high"] f_law_reached fd_law_reached
  f_law : Addr
  fd_law : FuncData
  d_law : Df K mg "law" s_law ["script"] f_law fd_law
section
variable {P : Program} {w : World} {K : Fr} {mg : Str → Option Value} {base : Heap}


/-! ### _law_cell_at -/
def G_law_cell_at : GF := fun ls Po _ => ∃ (ns : List Int) (k : Int), ls = [.scr ns, .d (.int k)] ∧ 0 ≤ k ∧ ∀ z : Int, Po (.d (.int z)) []
theorem ok_law_cell_at (T : Txt K mg) : FnOk P w K mg base CX0 1 T.f_law_cell_at T.fd_law_cell_at ["script", "k"] (SpG K none G_law_cell_at) := by
  refine T.d_law_cell_at.F.ok sc_law_cell_at (SpG.len (n := 2) fun ls Po Pe h => by obtain ⟨_, _, rfl, _⟩ := h; rfl) (fun cdv A outer s H vs Q E hr h => ⟨_, (pss_cons (ps_if (pt_cmpR op_lt (pv 1) (pe_callB (k_len K) (by rfl) T.b_len PySem.boot_len (pa_cons (pv 0) pa_nil)) (nomark _)) (pss_one (ps_ret (pe_ix (k_ix K) (pv 0) (pv 1) (fun _ _ => rfl)))) pss_nil)
 (pss_one (ps_ret pe_int))), rd_of h fun B ls Po Pe hB hG hE => ?_⟩)
  obtain ⟨ns, k, rfl, hk, q⟩ := hG
  show WS B K _ [some (.scr ns), some (.d (.int k))] _
  walk_at "sv"
  · have h1 : ixN ns.length k = some k.toNat := by
      unfold ixN
      rw [if_pos hk, if_pos hc]
    have h2 : k.toNat < ns.length := by omega
    refine ⟨k, ns[k.toNat], rfl, ?_, q _⟩
    unfold atI
    rw [h1]
    exact List.getElem?_eq_getElem h2
  · exact q _

/-! ### _law_take: a draw below many; the deck's cell and count are some others behind it -/
def deckD (c w s : Int) : List PyData := [.int c, .int w, .int s]
def G_law_take : GF := fun ls Po _ => ∃ c w s m : Int, ls = [.own (deckD c w s), .d (.int m)] ∧ (0 < m ∧ m < 1073741824 ∧ 0 ≤ s ∧ s < 2000000) ∧ ∀ r c' s' : Int, 0 ≤ r → r < m → s ≤ s' → s' ≤ s + 1 → Po (.d (.int r)) (deckD c' w s')
theorem ok_law_take (T : Txt K mg) : FnOk P w K mg base CX0 1 T.f_law_take T.fd_law_take ["deck", "many"] (SpG K (some 0) G_law_take) := by
  refine T.d_law_take.F.ok sc_law_take (SpG.len (n := 2) fun ls Po Pe h => by obtain ⟨_, _, _, _, rfl, _⟩ := h; rfl) (fun cdv A outer s H vs Q E hr h => ⟨_, (pss_cons (ps_if (pt_cmpR (k_eqD K rfl hr.units) (pe_ix (k_ix K) (pv 0) pe_int (fun _ _ => rfl)) pe_int (nomark _)) (pss_cons (ps_set (i := 2) sc_law_take.nd rfl (.inl rfl) (pe_op op_modN (pe_ix (k_ix K) (pv 0) pe_int (fun _ _ => rfl)) (pv 1)))
 (pss_cons (ps_asg (pe_op op_fdivN (pe_ix (k_ix K) (pv 0) pe_int (fun _ _ => rfl)) (pv 1)) (pg_sub (pv 0) pe_int set_list))
 (pss_one (ps_ret (pv 2))))) pss_nil)
 (pss_cons (ps_asg (pe_op (k_plus K) (pe_ix (k_ix K) (pv 0) pe_int (fun _ _ => rfl)) pe_int) (pg_sub (pv 0) pe_int set_list))
 (pss_cons (ps_set (i := 3) sc_law_take.nd rfl (.inl rfl) (pe_op op_modN (pe_op (k_plus K) (pe_op op_mul (pe_op op_modN (pe_ix (k_ix K) (pv 0) pe_int (fun _ _ => rfl)) pe_int) (pe_op (k_plus K) (pe_op op_mul (pe_ix (k_ix K) (pv 0) pe_int (fun _ _ => rfl)) (pe_ix (k_ix K) (pv 0) pe_int (fun _ _ => rfl))) pe_int)) (pe_ix (k_ix K) (pv 0) pe_int (fun _ _ => rfl))) pe_int))
 (pss_cons (ps_set (i := 3) sc_law_take.nd rfl (.inl rfl) (pe_op op_modN (pe_op op_mul (pv 3) (pv 3)) pe_int))
 (pss_one (ps_ret (pe_op op_modN (pe_op op_fdivN (pe_op op_modN (pe_op op_mul (pv 3) pe_int) pe_int) pe_int) (pv 1)))))))), rd_of h fun B ls Po Pe hB hG hE => ?_⟩)
  obtain ⟨c, w, t, m, rfl, hm, q⟩ := hG
  show WS B K _ [some (.own [.int c, .int w, .int t]), some (.d (.int m)), none, none] _
  walk_at "sv"
  · exact q _ _ _ (Int.emod_nonneg _ (by omega)) (Int.emod_lt_of_pos _ hm.1) (Int.le_refl _) (by omega)
  · exact q _ _ _ (Int.emod_nonneg _ (by omega)) (Int.emod_lt_of_pos _ hm.1) (by omega) (Int.le_refl _)

/-! ### _law_word: a word of 1 to 12 signs -/
def someS : Str := "!\"#$&'()*+,-./0123456789:;<=>?@ABCDEFGHIJKLMNOPQRSTUVWXYZ[\\]^_`abcdefghijklmnopqrstuvwxyz{|}~"
/-- a word: 1 to 12 signs of these -/
def IsWord (w : Str) : Prop := 1 ≤ w.length ∧ w.length ≤ 12 ∧ ∀ c, c ∈ w.cps.toList → c ∈ someS.cps.toList
theorem someS_len : someS.cps.toList.length = 93 := by decide +kernel
theorem atI_lt {α : Type} {xs : List α} {i : Int} (h0 : 0 ≤ i) (h : i < xs.length) : ∃ x, atI xs i = some x ∧ x ∈ xs := by
  have e : ixN xs.length i = some i.toNat := by
    unfold ixN
    rw [if_pos h0, if_pos h]
  have hl : i.toNat < xs.length := by omega
  exact ⟨xs[i.toNat], by unfold atI; rw [e]; exact List.getElem?_eq_getElem hl, List.getElem_mem hl⟩
theorem app_len (a b : Str) : (a ++ b).length = a.length + b.length := Array.size_append
theorem app_list (a b : Str) : (a ++ b).cps.toList = a.cps.toList ++ b.cps.toList := Array.toList_append
def G_law_word : GF := fun ls Po _ => ∃ c w : Int, ls = [.d (.int c), .d (.int w)] ∧ ∀ x : Str, IsWord x → Po (.d (.str x)) []
theorem ok_law_word (T : Txt K mg) : FnOk P w K mg base CX0 2 T.f_law_word T.fd_law_word ["cell", "way"] (SpG K none G_law_word) := by
  refine T.d_law_word.F.ok sc_law_word (SpG.len (n := 2) fun ls Po Pe h => by obtain ⟨_, _, rfl, _⟩ := h; rfl) (fun cdv A outer s H vs Q E hr h => ⟨_, (pss_cons (ps_set (i := 2) sc_law_word.nd rfl (.inl rfl) pe_str)
 (pss_cons (ps_setO (i := 3) sc_law_word.nd rfl (.inl rfl) (pe_lst (pa_cons (pv 0) (pa_cons (pv 1) (pa_cons pe_int pa_nil)))))
 (pss_cons (ps_set (i := 4) sc_law_word.nd rfl (.inl rfl) (pe_ix (k_ix K) (pe_lst (pa_cons pe_int (pa_cons pe_int (pa_cons pe_int pa_nil)))) (pe_call (ok_law_take T) hr (by rfl) T.d_law_take.g T.d_law_take.kp T.d_law_take.b .nil pass0 (pa_cons (pv 3) (pa_cons pe_int pa_nil))) (fun _ _ => rfl)))
 (pss_cons (ps_set (i := 5) sc_law_word.nd rfl (.inl rfl) pe_str)
 (pss_cons (ps_for PassesOwn.never rfl (pi_range1 (by rfl) T.b_range (pa_cons (pe_op (k_plus K) pe_int (pe_call (ok_law_take T) hr (by rfl) T.d_law_take.g T.d_law_take.kp T.d_law_take.b .nil pass0 (pa_cons (pv 3) (pa_cons (pv 4) pa_nil)))) pa_nil)) (pg_name (i := 6) sc_law_word.nd rfl (Or.inl rfl)) (pss_one (ps_set (i := 5) sc_law_word.nd rfl (.inl rfl) (pe_op (k_plus K) (pv 5) (pe_ix (k_ix K) (pv 2) (pe_call (ok_law_take T) hr (by rfl) T.d_law_take.g T.d_law_take.kp T.d_law_take.b .nil pass0 (pa_cons (pv 3) (pa_cons pe_int pa_nil))) (fun _ _ => rfl))))))
 (pss_one (ps_ret (pv 5)))))))), rd_of h fun B ls Po Pe hB hG hE => ?_⟩)
  obtain ⟨c, w, rfl, q⟩ := hG
  show WS B K _ [some (.d (.int c)), some (.d (.int w)), none, none, none, none, none] _
  walk_at "sv"
  refine ⟨c, w, 0, 3, rfl, by omega, fun r c1 s1 r0 r1 s0 s1' => ?_⟩
  have e : ∃ m : Int, atI [PyData.int 3, .int 6, .int 12] r = some (.int m) ∧ 3 ≤ m ∧ m ≤ 12 := by
    rcases (show r = 0 ∨ r = 1 ∨ r = 2 by omega) with e | e | e <;> subst e
    · exact ⟨3, rfl, by omega⟩
    · exact ⟨6, rfl, by omega⟩
    · exact ⟨12, rfl, by omega⟩
  obtain ⟨m, hm, m0⟩ := e
  refine ⟨_, rfl, idx_list hm ?_⟩
  walk_at "sv"
  refine ⟨c1, w, s1, m, rfl, by omega, fun r2 c2 s2 r20 r21 s20 s21 => ?_⟩
  walk_at "sv"
  refine ⟨fun pre ρ => ∃ (x : Str) (c' s' : Int) (o : Option L), ρ = [some (.d (.int c)), some (.d (.int w)), some (.d (.str someS)), some (.own (deckD c' w s')), some (.d (.int m)), some (.d (.str x)), o] ∧ x.length = pre.length ∧ (0 ≤ s' ∧ s' ≤ 2 + pre.length) ∧ ∀ c, c ∈ x.cps.toList → c ∈ someS.cps.toList,
    ⟨(("" : String) : Str), c2, s2, none, rfl, rfl, ⟨by omega, by simp only [List.length_nil]; omega⟩, fun c hc => by rw [show ((("" : String) : Str).cps.toList) = [] from by decide +kernel] at hc; cases hc⟩, fun pre a post ρ2 ha hI => ?_, fun ρ2 hI => ?_⟩
  · obtain ⟨x, c', s', o, rfl, hx, hs, hc⟩ := hI
    have hl : pre.length < 12 := by
      have := congrArg List.length ha
      rw [ixs_len, List.length_append, List.length_cons] at this
      omega
    walk_at "sv"
    refine ⟨c', w, s', 93, rfl, by omega, fun r3 c3 s3 r30 r31 s30 s31 => ⟨_, rfl, ?_⟩⟩
    obtain ⟨z, hz, hm⟩ := atI_lt (xs := someS.cps.toList) r30 (by rw [someS_len]; exact r31)
    refine idx_str (by rw [show someS.length = someS.cps.toList.length from rfl, someS_len]; decide) hz ?_
    have hz1 : (⟨#[z]⟩ : Str).length = 1 := rfl
    refine plus_str (by rw [hx, hz1]; show pre.length + 1 ≤ 1000000; omega) ⟨_, rfl, ?_⟩
    refine ⟨x ++ ⟨#[z]⟩, c3, s3, some (.d (.int a)), rfl, ?_, ⟨by omega, ?_⟩, fun c hc' => ?_⟩
    · rw [app_len, hx, hz1, List.length_append]; rfl
    · rw [List.length_append]; simp only [List.length_cons, List.length_nil]; omega
    · rw [app_list] at hc'
      rcases List.mem_append.mp hc' with h | h
      · exact hc c h
      · have : c = z := by simpa using h
        rw [this]; exact hm
  · obtain ⟨x, c', s', o, rfl, hx, hs, hc⟩ := hI
    walk_at "sv"
    rw [ixs_len] at hx
    exact q x ⟨by omega, by omega, hc⟩

/-! ### is_word, need_words, put_word, lines -/
def isWordD : PyData → Bool
  | .str s => decide (1 ≤ s.length) && decide (s.length ≤ 12) && s.cps.toList.all fun c => decide (c ∈ someS.cps.toList)
  | _ => false
theorem isWordD_iff {s : Str} : isWordD (.str s) = true ↔ IsWord s := by
  unfold isWordD IsWord
  rw [Bool.and_eq_true, Bool.and_eq_true, decide_eq_true_eq, decide_eq_true_eq, List.all_eq_true, and_assoc]
  constructor
  · exact fun ⟨a, b, c⟩ => ⟨a, b, fun x hx => of_decide_eq_true (c x hx)⟩
  · exact fun ⟨a, b, c⟩ => ⟨a, b, fun x hx => decide_eq_true (c x hx)⟩
/-- no text too long to be asked for its length -/
def shortD : PyData → Prop
  | .str s => s.length ≤ 100000
  | _ => True
def G_is_word : GF := fun ls Po _ => ∃ x, ls = [.d x] ∧ shortD x ∧ Po (.d (.bool (isWordD x))) []
theorem ok_is_word (T : Txt K mg) : FnOk P w K mg base CX0 1 T.f_is_word T.fd_is_word ["thing"] (SpG K none G_is_word) := by
  refine T.d_is_word.F.ok sc_is_word (SpG.len (n := 1) fun ls Po Pe h => by obtain ⟨_, rfl, _⟩ := h; rfl) (fun cdv A outer s H vs Q E hr h => ⟨_, (pss_cons (ps_if (PW.pt (pw_or (pt_not (pt_val (pe_callB (k_isi K) (by rfl) T.b_isinstance (by decide +kernel) (pa_cons (pv 0) (pa_cons (pe_bltn (v := .ty "str") (by rfl) T.b_str (by decide +kernel) rfl) pa_nil))))) (pw_or (pt_cmpR op_lt (pe_callB (k_len K) (by rfl) T.b_len PySem.boot_len (pa_cons (pv 0) pa_nil)) pe_int (nomark _)) (pw_or1 (pt_cmpR op_gt (pe_callB (k_len K) (by rfl) T.b_len PySem.boot_len (pa_cons (pv 0) pa_nil)) (pe_glob (v := .int 12) rfl T.c_MOST_SIGNS ⟨_, rfl⟩) (nomark _)))))) (pss_one (ps_ret pe_bl)) pss_nil)
 (pss_cons (ps_for PassesOwn.never rfl (pi_str (pv 0)) (pg_name (i := 1) sc_is_word.nd rfl (Or.inl rfl)) (pss_one (ps_if (pt_cmpR op_notIn_sign (pv 1) (pe_glob (v := .str "!\"#$&'()*+,-./0123456789:;<=>?@ABCDEFGHIJKLMNOPQRSTUVWXYZ[\\]^_`abcdefghijklmnopqrstuvwxyz{|}~") rfl T.c_SIGNS ⟨_, rfl⟩) (by rfl)) (pss_one (ps_ret pe_bl)) pss_nil)))
 (pss_one (ps_ret pe_bl)))), rd_of h fun B ls Po Pe hB hG hE => ?_⟩)
  obtain ⟨x, rfl, hs, q⟩ := hG
  show WS B K _ [some (.d x), none] _
  cases x
  case str z =>
    have hl : z.length ≤ lim := Nat.le_trans hs (by decide)
    walk_at "sv"
    · have e : isWordD (.str z) = false := Bool.eq_false_iff.mpr fun h => by have := (isWordD_iff.mp h).1; omega
      rw [e] at q
      exact q
    · have e : isWordD (.str z) = false := Bool.eq_false_iff.mpr fun h => by have := (isWordD_iff.mp h).2.1; omega
      rw [e] at q
      exact q
    · refine ws_forS ?_
      walk_at "sv"
      refine ⟨fun pre ρ => (∃ o, ρ = [some (.d (.str z)), o]) ∧ ∀ c, c ∈ pre → c ∈ someS.cps.toList, ⟨⟨_, rfl⟩, fun c hc => nomatch hc⟩, fun pre a post ρ2 ha hI => ?_, fun ρ2 hI => ?_⟩
      · obtain ⟨⟨o, rfl⟩, hp⟩ := hI
        walk_at "sv"
        · intro c hc'
          rcases List.mem_append.mp hc' with h | h
          · exact hp c h
          · have : c = a := by simpa using h
            rw [this]
            exact hc
        · have e : isWordD (.str z) = false := Bool.eq_false_iff.mpr fun h => absurd ((isWordD_iff.mp h).2.2 a (by rw [ha]; simp)) hc
          rw [e] at q
          exact q
      · obtain ⟨⟨o, rfl⟩, hp⟩ := hI
        walk_at "sv"
        have e : isWordD (.str z) = true := isWordD_iff.mpr ⟨by omega, by omega, hp⟩
        rw [e] at q
        exact q
  all_goals
    walk_at "sv"
    exact q
def wordsD : PyData → Bool
  | .list xs => xs.all isWordD
  | _ => false
def shortsD : PyData → Prop
  | .list xs => ∀ x, x ∈ xs → shortD x
  | _ => True
def G_need_words (C : Addr) : GF := fun ls Po Pe => ∃ x, ls = [.d x] ∧ shortsD x ∧ (wordsD x = true → Po (.d .none) []) ∧ (wordsD x = false → Pe C)
theorem ok_need_words (T : Txt K mg) : FnOk P w K mg base (L2.CX P w) 2 T.f_need_words T.fd_need_words ["things"] (SpG K none (G_need_words T.a_NoTexts)) := by
  refine T.d_need_words.F.okX sc_need_words (SpG.len (n := 1) fun ls Po Pe h => by obtain ⟨_, rfl, _⟩ := h; rfl) (fun cdv A outer s H vs Q E hr h => ⟨_, (pss_cons (ps_if (pt_not (pt_val (pe_callB (k_isi K) (by rfl) T.b_isinstance (by decide +kernel) (pa_cons (pv 0) (pa_cons (pe_bltn (v := .ty "list") (by rfl) T.b_list (by decide +kernel) rfl) pa_nil))))) (pss_one (p_raise (takes_of rfl rfl rfl rfl) (pmk_own PySem.F.excBase_ValueError T.NoTexts.x T.NoTexts.g T.NoTexts.k (raises_own T.NoTexts.b T.NoTexts.t) (by exact rfl)))) pss_nil)
 (pss_one (ps_for (passes_of rfl) rfl (k_piL K rfl (pv 0)) (pg_name (i := 1) sc_need_words.nd rfl (Or.inl rfl)) (pss_one (ps_if (pt_not (pt_val (pe_call (ok_is_word T) hr (by rfl) T.d_is_word.g T.d_is_word.kp T.d_is_word.b .nil pass0 (pa_cons (pv 1) pa_nil)))) (pss_one (p_raise (takes_of rfl rfl rfl rfl) (pmk_own PySem.F.excBase_ValueError T.NoTexts.x T.NoTexts.g T.NoTexts.k (raises_own T.NoTexts.b T.NoTexts.t) (by exact rfl)))) pss_nil))))), rd_of h fun B ls Po Pe hB hG hE => ?_⟩)
  obtain ⟨x, rfl, hs, q1, q2⟩ := hG
  show WS B K _ [some (.d x), none] _
  cases x
  case list xs =>
    walk_at "sv"
    refine ws_forL id ?_
    walk_at "sv"
    refine ⟨xs, by rw [List.map_id], fun pre ρ => (∃ o, ρ = [some (.d (.list xs)), o]) ∧ ∀ y, y ∈ pre → isWordD y = true, ⟨⟨_, rfl⟩, fun c hc => nomatch hc⟩, fun pre a post ρ2 ha hI => ?_, fun ρ2 hI => ?_⟩
    · obtain ⟨⟨o, rfl⟩, hp⟩ := hI
      have hm : a ∈ xs := by rw [ha]; simp
      walk_at "sv"
      refine ⟨_, rfl, hs a hm, _, rfl, _, rfl, fk_not ⟨fun e => ?_, fun e => ?_⟩⟩
      · walk_at "sv"
        intro y hy
        rcases List.mem_append.mp hy with h | h
        · exact hp y h
        · have : y = a := by simpa using h
          rw [this]
          exact e
      · refine ws_raise (hE _ (q2 (Bool.eq_false_iff.mpr fun h => ?_)))
        have e2 := List.all_eq_true.mp (show xs.all isWordD = true from h) a hm
        exact absurd (e2.symm.trans e) (by decide)
    · obtain ⟨_, hp⟩ := hI
      exact q1 (List.all_eq_true.mpr hp)
  all_goals
    walk_at "sv"
    exact ws_raise (hE _ (q2 rfl))
/-! ### put_word, lines -/
def spS : Str := (" " : String)
theorem spS_len : spS.length = 1 := by decide +kernel
/-- a word more: into the last line, where it has room, else into a new one -/
def putW (w : Int) (fs : List Str) (x : Str) : List Str :=
  match fs.getLast? with
  | none => [x]
  | some l => if (l.length : Int) + 1 + x.length ≤ w then fs.dropLast ++ [l ++ spS ++ x] else fs ++ [x]
theorem putW_nil (w : Int) (x : Str) : putW w [] x = [x] := rfl
theorem putW_in {w : Int} {gs : List Str} {l x : Str} (h : (l.length : Int) + 1 + x.length ≤ w) : putW w (gs ++ [l]) x = gs ++ [l ++ spS ++ x] := by
  unfold putW
  rw [List.getLast?_concat]
  simp only [h, if_true, List.dropLast_concat]
theorem putW_out {w : Int} {gs : List Str} {l x : Str} (h : ¬ (l.length : Int) + 1 + x.length ≤ w) : putW w (gs ++ [l]) x = gs ++ [l] ++ [x] := by
  unfold putW
  rw [List.getLast?_concat]
  simp only [h, if_false]
theorem snoc_cases {α : Type} (l : List α) : l = [] ∨ ∃ g x, l = g ++ [x] := by
  rcases List.eq_nil_or_concat l with h | ⟨g, x, h⟩
  · exact .inl h
  · exact .inr ⟨g, x, by rw [h, List.concat_eq_append]⟩
theorem set_snoc {α : Type} (g : List α) (x y : α) : (g ++ [x]).set g.length y = g ++ [y] := by
  rw [List.set_append_right _ _ (Nat.le_refl _), Nat.sub_self]
  rfl
theorem ixN_snoc {α : Type} (g : List α) (x : α) : ixN (g ++ [x]).length (-1) = some g.length := by
  unfold ixN
  rw [List.length_append, if_neg (by omega), if_pos (by simp only [List.length_cons, List.length_nil]; omega)]
  congr 1
  simp only [List.length_cons, List.length_nil]
  omega
theorem snoc_ind {α : Type} {P : List α → Prop} (h0 : P []) (hs : ∀ l x, P l → P (l ++ [x])) : ∀ l, P l := by
  have key : ∀ n (l : List α), l.length = n → P l := by
    intro n
    induction n with
    | zero => intro l h; rw [List.eq_nil_of_length_eq_zero h]; exact h0
    | succ n ih =>
      intro l h
      rcases snoc_cases l with rfl | ⟨g, x, rfl⟩
      · cases h
      · refine hs g x (ih g ?_)
        rw [List.length_append] at h
        simp only [List.length_cons, List.length_nil] at h
        omega
  exact fun l => key _ l rfl
/-! the lines of words -/
def linesW (w : Int) (ws : List Str) : List Str := ws.foldl (putW w) []
theorem linesW_snoc (w : Int) (ws : List Str) (x : Str) : linesW w (ws ++ [x]) = putW w (linesW w ws) x := by
  unfold linesW
  rw [List.foldl_append]
  rfl
theorem putW_mem {w : Int} {fs : List Str} {x f : Str} (h : f ∈ putW w fs x) : f ∈ fs ∨ f = x ∨ ∃ l, l ∈ fs ∧ f = l ++ spS ++ x ∧ (l.length : Int) + 1 + x.length ≤ w := by
  rcases snoc_cases fs with rfl | ⟨gs, l, rfl⟩
  · rw [putW_nil] at h
    exact .inr (.inl (by simpa using h))
  · by_cases c : (l.length : Int) + 1 + x.length ≤ w
    · rw [putW_in c] at h
      rcases List.mem_append.mp h with h | h
      · exact .inl (List.mem_append_left _ h)
      · exact .inr (.inr ⟨l, by simp, by simpa using h, c⟩)
    · rw [putW_out c] at h
      rcases List.mem_append.mp h with h | h
      · exact .inl h
      · exact .inr (.inl (by simpa using h))
theorem putW_len {w : Int} {fs : List Str} {x : Str} : (putW w fs x).length ≤ fs.length + 1 := by
  rcases snoc_cases fs with rfl | ⟨gs, l, rfl⟩
  · rw [putW_nil]; simp
  · by_cases c : (l.length : Int) + 1 + x.length ≤ w
    · rw [putW_in c]; simp
    · rw [putW_out c]; simp
theorem strOk_app {a b : Str} (ha : PyData.strOk a = true) (hb : PyData.strOk b = true) : PyData.strOk (a ++ b) = true := by
  unfold PyData.strOk at *
  rw [← Array.all_toList] at *
  rw [app_list, List.all_append, ha, hb]
  rfl
theorem strOk_word {x : Str} (h : IsWord x) : PyData.strOk x = true := by
  unfold PyData.strOk
  rw [← Array.all_toList, List.all_eq_true]
  intro c hc
  have h2 : someS.cps.toList.all (fun c => decide (c < 1114112)) = true := by decide +kernel
  exact List.all_eq_true.mp h2 c (h.2.2 c hc)
theorem strOk_sp : PyData.strOk spS = true := by decide +kernel
/-- what every line is: not too long, signs as they should be, within the width where each word is -/
structure LineOk (w : Int) (n : Nat) (f : Str) : Prop where
  len : f.length ≤ 13 * n
  ok : PyData.strOk f = true
theorem lines_ok {w : Int} : ∀ {ws : List Str}, (∀ x, x ∈ ws → IsWord x) → ∀ f, f ∈ linesW w ws → LineOk w ws.length f := by
  intro ws
  induction ws using snoc_ind with
  | h0 => intro _ f hf; cases hf
  | hs ws x ih =>
    intro hw f hf
    have hx := hw x (by simp)
    have ih' := ih fun y hy => hw y (List.mem_append_left _ hy)
    rw [linesW_snoc] at hf
    rw [List.length_append]
    simp only [List.length_cons, List.length_nil]
    rcases putW_mem hf with h | rfl | ⟨l, hl, rfl, _⟩
    · exact ⟨by have := (ih' f h).len; omega, (ih' f h).ok⟩
    · exact ⟨by have := hx.2.1; omega, strOk_word hx⟩
    · refine ⟨?_, strOk_app (strOk_app (ih' l hl).ok strOk_sp) (strOk_word hx)⟩
      rw [app_len, app_len, spS_len]
      have := (ih' l hl).len
      have := hx.2.1
      omega
theorem lines_len {w : Int} : ∀ (ws : List Str), (linesW w ws).length ≤ ws.length := by
  intro ws
  induction ws using snoc_ind with
  | h0 => exact Nat.le_refl _
  | hs ws x ih =>
    rw [linesW_snoc, List.length_append]
    exact Nat.le_trans putW_len (Nat.add_le_add_right ih 1)
theorem wordsD_of {ws : List Str} (h : ∀ x, x ∈ ws → IsWord x) : wordsD (.list (ws.map .str)) = true := by
  show (ws.map PyData.str).all isWordD = true
  rw [List.all_map, List.all_eq_true]
  exact fun x hx => isWordD_iff.mpr (h x hx)

/-! ### no breaking into lines has fewer of them -/
def tot (ws : List Str) : Int := (ws.map fun x => (x.length : Int) + 1).sum - 1
theorem tot_nil : tot [] = -1 := rfl
theorem tot_cons (x : Str) (ws : List Str) : tot (x :: ws) = tot ws + 1 + x.length := by
  unfold tot
  rw [List.map_cons, List.sum_cons]
  omega
theorem tot_snoc (ws : List Str) (x : Str) : tot (ws ++ [x]) = tot ws + 1 + x.length := by
  unfold tot
  rw [List.map_append, List.sum_append]
  simp only [List.map_cons, List.map_nil, List.sum_cons, List.sum_nil]
  omega
theorem tot_ge (ws : List Str) : -1 ≤ tot ws := by
  induction ws with
  | nil => exact Int.le_refl _
  | cons x ws ih => rw [tot_cons]; omega
theorem tot_app (a b : List Str) : tot b ≤ tot (a ++ b) := by
  induction a with
  | nil => exact Int.le_refl _
  | cons x a ih =>
    rw [List.cons_append, tot_cons]
    omega
/-- the last line's length -/
def lastL (fs : List Str) : Int := match fs.getLast? with | none => -1 | some l => l.length
theorem lastL_snoc (gs : List Str) (l : Str) : lastL (gs ++ [l]) = l.length := by
  unfold lastL
  rw [List.getLast?_concat]
theorem joined_len (l x : Str) : ((l ++ spS ++ x).length : Int) = l.length + 1 + x.length := by
  rw [app_len, app_len, spS_len]
  omega
theorem seg_most {w : Int} (p : List Str) : ∀ seg : List Str, tot seg ≤ w →
    (linesW w (p ++ seg)).length = (linesW w p).length ∨ ((linesW w (p ++ seg)).length = (linesW w p).length + 1 ∧ lastL (linesW w (p ++ seg)) ≤ tot seg) := by
  intro seg
  induction seg using snoc_ind with
  | h0 => intro _; rw [List.append_nil]; exact .inl rfl
  | hs seg x ih =>
    intro ht
    rw [tot_snoc] at ht ⊢
    have ih' := ih (by omega)
    have t0 := tot_ge seg
    rw [← List.append_assoc, linesW_snoc]
    rcases snoc_cases (linesW w (p ++ seg)) with e | ⟨gs, l, e⟩
    · rw [e] at ih' ⊢
      rw [putW_nil]
      right
      rcases ih' with h | ⟨h, _⟩
      · exact ⟨by rw [← h]; rfl, by rw [show [x] = [] ++ [x] from rfl, lastL_snoc]; omega⟩
      · simp at h
    · rw [e] at ih' ⊢
      by_cases c : (l.length : Int) + 1 + x.length ≤ w
      · rw [putW_in c]
        rw [lastL_snoc] at ih' ⊢
        rcases ih' with h | ⟨h, hl⟩
        · left; rw [← h]; simp
        · right
          exact ⟨by rw [← h]; simp, by rw [joined_len]; omega⟩
      · rw [putW_out c]
        rw [lastL_snoc] at ih' ⊢
        rcases ih' with h | ⟨h, hl⟩
        · right
          exact ⟨by rw [List.length_append, h]; rfl, by omega⟩
        · exact absurd (show (l.length : Int) + 1 + x.length ≤ w by omega) c
theorem seg_last {w : Int} : ∀ ws : List Str, (∀ v, v ∈ ws → (v.length : Int) ≤ w) → ws ≠ [] → ∃ p seg, ws = p ++ seg ∧ seg ≠ [] ∧ tot seg ≤ w ∧ (linesW w p).length + 1 = (linesW w ws).length ∧ lastL (linesW w ws) = tot seg := by
  intro ws
  induction ws using snoc_ind with
  | h0 => intro _ h; exact absurd rfl h
  | hs ws x ih =>
    intro hf _
    have hx := hf x (by simp)
    have hf' : ∀ v, v ∈ ws → (v.length : Int) ≤ w := fun v hv => hf v (List.mem_append_left _ hv)
    have one : tot [x] = x.length := by rw [tot_cons, tot_nil]; omega
    rw [linesW_snoc]
    rcases snoc_cases (linesW w ws) with e | ⟨gs, l, e⟩
    · rw [e, putW_nil]
      exact ⟨ws, [x], rfl, by simp, by rw [one]; exact hx, by rw [e]; rfl, by rw [one, show [x] = [] ++ [x] from rfl, lastL_snoc]⟩
    · by_cases c : (l.length : Int) + 1 + x.length ≤ w
      · have hne : ws ≠ [] := fun z => by subst z; simp [linesW] at e
        obtain ⟨p, seg, hps, hs, ht, hg, hl⟩ := ih hf' hne
        rw [e, lastL_snoc] at hl
        rw [e, putW_in c]
        refine ⟨p, seg ++ [x], by rw [hps, List.append_assoc], by simp, by rw [tot_snoc]; omega, by rw [hg, e]; simp, ?_⟩
        rw [lastL_snoc, joined_len, tot_snoc]
        omega
      · rw [e, putW_out c]
        exact ⟨ws, [x], rfl, by simp, by rw [one]; exact hx, by rw [e]; simp, by rw [one, lastL_snoc]⟩
/-- the first n words' number of lines -/
def gN (w : Int) (ws : List Str) (n : Nat) : Nat := (linesW w (ws.take n)).length
theorem take_split (ws : List Str) {f n : Nat} (h : f ≤ n) : ws.take n = ws.take f ++ (ws.take n).drop f := by
  have e := List.take_append_drop f (ws.take n)
  rw [List.take_take, Nat.min_eq_left h] at e
  exact e.symm
theorem gN_le {w : Int} {ws : List Str} {f n : Nat} (h : f ≤ n) (ht : tot ((ws.take n).drop f) ≤ w) : gN w ws n ≤ gN w ws f + 1 := by
  have k := seg_most (w := w) (ws.take f) ((ws.take n).drop f) ht
  rw [← take_split ws h] at k
  unfold gN
  rcases k with k | ⟨k, _⟩ <;> omega
theorem gN_at {w : Int} {ws : List Str} {n : Nat} (hn : n ≤ ws.length) (h0 : 0 < n) (hf : ∀ v, v ∈ ws → (v.length : Int) ≤ w) : ∃ f, f < n ∧ tot ((ws.take n).drop f) ≤ w ∧ gN w ws f + 1 = gN w ws n := by
  have hl : (ws.take n).length = n := by rw [List.length_take]; omega
  obtain ⟨p, seg, hps, hs, ht, hg, _⟩ := seg_last (w := w) (ws.take n) (fun v hv => hf v (List.mem_of_mem_take hv)) (fun z => by rw [z] at hl; simp at hl; omega)
  have hlen := congrArg List.length hps
  rw [hl, List.length_append] at hlen
  have hsl : 0 < seg.length := List.length_pos_iff.mpr hs
  have hp : p = ws.take p.length := by
    have e := congrArg (List.take p.length) hps
    rw [List.take_left, List.take_take, Nat.min_eq_left (by omega)] at e
    exact e.symm
  refine ⟨p.length, by omega, ?_, ?_⟩
  · rw [hps, List.drop_left]; exact ht
  · unfold gN
    rw [← hp, hg]
theorem tot_drop (ws : List Str) {m n : Nat} (h : m < n) (hn : n ≤ ws.length) : tot ((ws.take n).drop m) = tot ((ws.take n).drop (m + 1)) + 1 + (ws[m]'(by omega)).length := by
  have hl : m < (ws.take n).length := by rw [List.length_take]; omega
  rw [List.drop_eq_getElem_cons hl, tot_cons, List.getElem_take]
theorem tot_mono (ws : List Str) {a b n : Nat} (h : a ≤ b) : tot ((ws.take n).drop b) ≤ tot ((ws.take n).drop a) := by
  have e : (ws.take n).drop a = ((ws.take n).drop a).take (b - a) ++ (ws.take n).drop b := by
    have := (List.take_append_drop (b - a) ((ws.take n).drop a)).symm
    rw [List.drop_drop, show a + (b - a) = b by omega] at this
    exact this
  rw [e]
  exact tot_app _ _
theorem gN_zero (w : Int) (ws : List Str) : gN w ws 0 = 0 := rfl
def leastD (w : Int) (ws : List Str) (n : Nat) : List PyData := (List.range n).map fun (i : Nat) => .int (gN w ws i : Int)
theorem leastD_len {w : Int} {ws : List Str} {n : Nat} : (leastD w ws n).length = n := by unfold leastD; rw [List.length_map, List.length_range]
theorem leastD_at {w : Int} {ws : List Str} {n i : Nat} (h : i < n) : (leastD w ws n)[i]? = some (.int (gN w ws i : Int)) := by
  unfold leastD
  rw [List.getElem?_map, List.getElem?_range h]
  rfl
theorem leastD_snoc {w : Int} {ws : List Str} {n : Nat} : leastD w ws (n + 1) = leastD w ws n ++ [.int (gN w ws n : Int)] := by
  unfold leastD
  rw [List.range_succ, List.map_append]
  rfl
theorem ixs_split {lo : Int} {n : Nat} {pre : List Int} {a : Int} {post : List Int} (h : ixs lo n = pre ++ a :: post) : a = lo + (pre.length : Int) ∧ pre.length < n := by
  have hl := congrArg List.length h
  rw [ixs_len, List.length_append, List.length_cons] at hl
  have e : (ixs lo n)[pre.length]? = some a := by rw [h, List.getElem?_append_right (Nat.le_refl _), Nat.sub_self]; rfl
  rw [ixs_at, if_pos (by omega)] at e
  exact ⟨(Option.some.inj e).symm, by omega⟩

/-! ### the lines put together by blanks are the words put together -/
open TL (joinL tl tl_join join_eq)
theorem joinL_snoc {S x : List Nat} : ∀ {fs : List (List Nat)}, fs ≠ [] → joinL S (fs ++ [x]) = joinL S fs ++ S ++ x
  | [], h => absurd rfl h
  | [p], _ => by simp [joinL]
  | p :: q :: r, _ => by
    have ih := joinL_snoc (S := S) (x := x) (fs := q :: r) (by simp)
    show p ++ (S ++ joinL S ((q :: r) ++ [x])) = (p ++ (S ++ joinL S (q :: r))) ++ S ++ x
    rw [ih]
    simp only [List.append_assoc]
theorem linesW_ne {w : Int} {ws : List Str} (h : ws ≠ []) : linesW w ws ≠ [] := by
  rcases snoc_cases ws with rfl | ⟨g, x, rfl⟩
  · exact absurd rfl h
  · rw [linesW_snoc]
    rcases snoc_cases (linesW w g) with e | ⟨gs, l, e⟩
    · rw [e, putW_nil]; simp
    · rw [e]
      by_cases c : (l.length : Int) + 1 + x.length ≤ w
      · rw [putW_in c]; simp
      · rw [putW_out c]; simp
theorem join_lines {w : Int} : ∀ ws : List Str, joinL (tl spS) ((linesW w ws).map tl) = joinL (tl spS) (ws.map tl) := by
  intro ws
  induction ws using snoc_ind with
  | h0 => rfl
  | hs ws x ih =>
    rw [linesW_snoc, List.map_append]
    by_cases hw : ws = []
    · subst hw
      rfl
    · have hne : ws.map tl ≠ [] := fun z => hw (List.map_eq_nil_iff.mp z)
      rw [List.map_cons, List.map_nil, joinL_snoc hne, ← ih]
      rcases snoc_cases (linesW w ws) with e | ⟨gs, l, e⟩
      · exact absurd e (linesW_ne hw)
      · rw [e]
        by_cases c : (l.length : Int) + 1 + x.length ≤ w
        · rw [putW_in c, List.map_append, List.map_append]
          simp only [List.map_cons, List.map_nil]
          by_cases hg : gs.map tl = []
          · rw [hg]
            show tl (l ++ spS ++ x) = tl l ++ tl spS ++ tl x
            unfold tl
            rw [app_list, app_list]
          · rw [joinL_snoc hg, joinL_snoc hg]
            have e2 : tl (l ++ spS ++ x) = tl l ++ tl spS ++ tl x := by
              unfold tl
              rw [app_list, app_list]
            rw [e2]
            simp only [List.append_assoc]
        · rw [putW_out c, List.map_append (l₁ := gs ++ [l])]
          simp only [List.map_cons, List.map_nil]
          exact joinL_snoc (by simp)
theorem txt_join_lines {w : Int} (ws : List Str) : Txt.join spS (linesW w ws) = Txt.join spS ws := by
  rw [join_eq, join_eq]
  have e := join_lines (w := w) ws
  rw [← tl_join, ← tl_join] at e
  cases h1 : Str.join spS (linesW w ws) with
  | mk a =>
    cases h2 : Str.join spS ws with
    | mk b =>
      rw [h1, h2] at e
      exact congrArg Str.mk (Array.toList_inj.mp e)
theorem sum_le {n : Nat} : ∀ {ws : List Str}, (∀ v, v ∈ ws → v.length ≤ n) → (ws.map (·.length)).sum ≤ n * ws.length
  | [], _ => Nat.le_refl _
  | x :: ws, h => by
    have ih := sum_le (ws := ws) fun v hv => h v (List.mem_cons_of_mem _ hv)
    have hx := h x List.mem_cons_self
    rw [List.map_cons, List.sum_cons, List.length_cons, Nat.mul_succ]
    omega
theorem mem_joinL {S : List Nat} {c : Nat} : ∀ {ps : List (List Nat)}, c ∈ joinL S ps → c ∈ S ∨ ∃ p, p ∈ ps ∧ c ∈ p
  | [], h => by cases h
  | [p], h => .inr ⟨p, List.mem_cons_self, h⟩
  | p :: q :: r, h => by
    rcases List.mem_append.mp (show c ∈ p ++ (S ++ joinL S (q :: r)) from h) with h | h
    · exact .inr ⟨p, List.mem_cons_self, h⟩
    · rcases List.mem_append.mp h with h | h
      · exact .inl h
      · rcases mem_joinL h with h | ⟨p', h1, h2⟩
        · exact .inl h
        · exact .inr ⟨p', List.mem_cons_of_mem _ h1, h2⟩
theorem strOk_join {ws : List Str} (h : ∀ w, w ∈ ws → PyData.strOk w = true) : PyData.strOk (Txt.join spS ws) = true := by
  have hs : ∀ (x : Str), PyData.strOk x = true ↔ ∀ c, c ∈ tl x → c < 0x110000 := fun x => by
    unfold PyData.strOk
    rw [← Array.all_toList, List.all_eq_true]
    exact ⟨fun k c hc => of_decide_eq_true (k c hc), fun k c hc => decide_eq_true (k c hc)⟩
  rw [hs, join_eq, tl_join]
  intro c hc
  rcases mem_joinL hc with h1 | ⟨p, h1, h2⟩
  · exact (hs spS).mp strOk_sp c h1
  · obtain ⟨w, hw, rfl⟩ := List.mem_map.mp h1
    exact (hs w).mp (h w hw) c h2
theorem lines_fit {w : Int} : ∀ {ws : List Str}, (∀ v, v ∈ ws → (v.length : Int) ≤ w) → ∀ f, f ∈ linesW w ws → (f.length : Int) ≤ w := by
  intro ws
  induction ws using snoc_ind with
  | h0 => intro _ f hf; cases hf
  | hs ws x ih =>
    intro hw f hf
    rw [linesW_snoc] at hf
    rcases putW_mem hf with h | rfl | ⟨l, hl, rfl, c⟩
    · exact ih (fun v hv => hw v (List.mem_append_left _ hv)) f h
    · exact hw f (by simp)
    · rw [joined_len]; exact c

/-! ### the words of a script -/
theorem cutD_len {α : Type} (xs : List α) (lo hi : Option Int) : (cutD xs lo hi).length ≤ xs.length := by
  unfold cutD
  rw [List.length_take, List.length_drop]
  omega
theorem words_of {xs : List Int} {ys : List PyData} (h : Sel (fun (_ : Int) o => ∃ x, IsWord x ∧ o = some (.str x)) xs ys) : ∃ ws : List Str, ys = ws.map .str ∧ (∀ v, v ∈ ws → IsWord v) ∧ ws.length = xs.length := by
  induction h with
  | nil => exact ⟨[], rfl, fun v hv => (nomatch hv), rfl⟩
  | @yes a as y ys _ hp ih =>
    obtain ⟨ws, rfl, hw, hl⟩ := ih
    obtain ⟨x, hx, e⟩ := hp
    cases e
    refine ⟨ws ++ [x], by rw [List.map_append]; rfl, fun v hv => ?_, by rw [List.length_append, List.length_append, hl]; rfl⟩
    rcases List.mem_append.mp hv with h | h
    · exact hw v h
    · rw [show v = x by simpa using h]; exact hx
  | no _ hp => obtain ⟨x, _, e⟩ := hp; cases e
theorem cutD_mem {α : Type} {xs : List α} {lo hi : Option Int} {x : α} (h : x ∈ cutD xs lo hi) : x ∈ xs := List.mem_of_mem_drop (List.mem_of_mem_take h)

/-- a comprehension each of whose items is some thing of a kind -/
theorem Sel.pick {α β : Type} {f : β → PyData} {G : β → Prop} {as : List α} {ys : List PyData} (s : Sel (fun _ o => ∃ b, G b ∧ o = some (f b)) as ys) : ∃ bs : List β, ys = bs.map f ∧ (∀ b, b ∈ bs → G b) ∧ bs.length = as.length := by
  induction s with
  | nil => exact ⟨[], rfl, (fun b h => nomatch h), rfl⟩
  | yes _ h ih =>
    obtain ⟨bs, rfl, h1, h2⟩ := ih
    obtain ⟨b, hb, e⟩ := h
    cases e
    refine ⟨bs ++ [b], by rw [List.map_append]; rfl, fun c hc => ?_, by rw [List.length_append, List.length_append, h2]; rfl⟩
    rcases List.mem_append.mp hc with k | k
    · exact h1 c k
    · rw [List.mem_singleton.mp k]; exact hb
  | no _ h => obtain ⟨_, _, e⟩ := h; cases e
theorem ixs_mem {lo x : Int} {n : Nat} (h : x ∈ ixs lo n) : lo ≤ x ∧ x < lo + n := by
  obtain ⟨i, hi, e⟩ := List.getElem_of_mem h
  have e2 := ixs_at (lo := lo) (n := n) (i := i)
  rw [List.getElem?_eq_getElem hi, e] at e2
  split at e2
  · have e3 := Option.some.inj e2
    omega
  · cases e2

/-! ### is_room, need_rooms -/
def posD : PyData → Bool
  | .int i => decide (1 ≤ i)
  | _ => false
def isRoomD : PyData → Bool
  | .tuple xs => decide (xs.length = 2) && xs.all posD
  | _ => false
def G_is_room : GF := fun ls Po _ => ∃ x, ls = [.d x] ∧ Po (.d (.bool (isRoomD x))) []
theorem ok_is_room (T : Txt K mg) : FnOk P w K mg base CX0 1 T.f_is_room T.fd_is_room ["thing"] (SpG K none G_is_room) := by
  refine T.d_is_room.F.ok sc_is_room (SpG.len (n := 1) fun ls Po Pe h => by obtain ⟨_, rfl, _⟩ := h; rfl) (fun cdv A outer s H vs Q E hr h => ⟨_, (pss_cons (ps_if (PW.pt (pw_or (pt_not (pt_val (pe_callB (k_isi K) (by rfl) T.b_isinstance (by decide +kernel) (pa_cons (pv 0) (pa_cons (pe_bltn (v := .ty "tuple") (by rfl) T.b_tuple (by decide +kernel) rfl) pa_nil))))) (pw_or1 (pt_cmpR (k_neD K rfl hr.units) (pe_callB (k_len K) (by rfl) T.b_len PySem.boot_len (pa_cons (pv 0) pa_nil)) pe_int (nomark _))))) (pss_one (ps_ret pe_bl)) pss_nil)
 (pss_cons (ps_for PassesOwn.never rfl (k_piT K rfl (pv 0)) (pg_name (i := 1) sc_is_room.nd rfl (Or.inl rfl)) (pss_one (ps_if (PW.pt (pw_or (pt_not (pt_val (pe_callB (k_isi K) (by rfl) T.b_isinstance (by decide +kernel) (pa_cons (pv 1) (pa_cons (pe_bltn (v := .ty "int") (by rfl) T.b_int (by decide +kernel) rfl) pa_nil))))) (pw_or (pt_val (pe_callB (k_isi K) (by rfl) T.b_isinstance (by decide +kernel) (pa_cons (pv 1) (pa_cons (pe_bltn (v := .ty "bool") (by rfl) T.b_bool (by decide +kernel) rfl) pa_nil)))) (pw_or1 (pt_cmpR op_lt (pv 1) pe_int (nomark _)))))) (pss_one (ps_ret pe_bl)) pss_nil)))
 (pss_one (ps_ret pe_bl)))), rd_of h fun B ls Po Pe hB hG hE => ?_⟩)
  obtain ⟨x, rfl, q⟩ := hG
  show WS B K _ [some (.d x), none] _
  cases x
  case tuple xs =>
    walk_at "sv"
    · refine ws_forT id ?_
      walk_at "sv"
      refine ⟨xs, by rw [List.map_id], fun pre ρ => (∃ o, ρ = [some (.d (.tuple xs)), o]) ∧ ∀ y, y ∈ pre → posD y = true, ⟨⟨_, rfl⟩, fun c hc => nomatch hc⟩, fun pre a post ρ2 ha hI => ?_, fun ρ2 hI => ?_⟩
      · obtain ⟨⟨o, rfl⟩, hp⟩ := hI
        have hm : a ∈ xs := by rw [ha]; simp
        have no : posD a = false → isRoomD (.tuple xs) = false := fun h => by
          have e2 : xs.all posD = false := Bool.eq_false_iff.mpr fun k => by rw [List.all_eq_true.mp k a hm] at h; cases h
          show (decide (xs.length = 2) && xs.all posD) = false
          rw [e2, Bool.and_false]
        cases a
        case int i =>
          walk_at "sv"
          · rw [no (decide_eq_false (by omega))] at q
            exact q
          · intro y hy
            rcases List.mem_append.mp hy with h | h
            · exact hp y h
            · rw [show y = .int i by simpa using h]
              exact decide_eq_true (by omega)
        all_goals
          walk_at "sv"
          rw [no rfl] at q
          exact q
      · obtain ⟨⟨o, rfl⟩, hp⟩ := hI
        walk_at "sv"
        have e : isRoomD (.tuple xs) = true := by
          show (decide (xs.length = 2) && xs.all posD) = true
          rw [decide_eq_true (by omega), List.all_eq_true.mpr hp]
          rfl
        rw [e] at q
        exact q
    · have e : isRoomD (.tuple xs) = false := by
        show (decide (xs.length = 2) && xs.all posD) = false
        rw [decide_eq_false (by omega)]
        rfl
      rw [e] at q
      exact q
  all_goals
    walk_at "sv"
    exact q
def roomsD : PyData → Bool
  | .list xs => xs.all isRoomD
  | _ => false
def G_need_rooms (C : Addr) : GF := fun ls Po Pe => ∃ x, ls = [.d x] ∧ (roomsD x = true → Po (.d .none) []) ∧ (roomsD x = false → Pe C)
theorem ok_need_rooms (T : Txt K mg) : FnOk P w K mg base (L2.CX P w) 2 T.f_need_rooms T.fd_need_rooms ["things"] (SpG K none (G_need_rooms T.a_NoNeeds)) := by
  refine T.d_need_rooms.F.okX sc_need_rooms (SpG.len (n := 1) fun ls Po Pe h => by obtain ⟨_, rfl, _⟩ := h; rfl) (fun cdv A outer s H vs Q E hr h => ⟨_, (pss_cons (ps_if (pt_not (pt_val (pe_callB (k_isi K) (by rfl) T.b_isinstance (by decide +kernel) (pa_cons (pv 0) (pa_cons (pe_bltn (v := .ty "list") (by rfl) T.b_list (by decide +kernel) rfl) pa_nil))))) (pss_one (p_raise (takes_of rfl rfl rfl rfl) (pmk_own PySem.F.excBase_ValueError T.NoNeeds.x T.NoNeeds.g T.NoNeeds.k (raises_own T.NoNeeds.b T.NoNeeds.t) (by exact rfl)))) pss_nil)
 (pss_one (ps_for (passes_of rfl) rfl (k_piL K rfl (pv 0)) (pg_name (i := 1) sc_need_rooms.nd rfl (Or.inl rfl)) (pss_one (ps_if (pt_not (pt_val (pe_call (ok_is_room T) hr (by rfl) T.d_is_room.g T.d_is_room.kp T.d_is_room.b .nil pass0 (pa_cons (pv 1) pa_nil)))) (pss_one (p_raise (takes_of rfl rfl rfl rfl) (pmk_own PySem.F.excBase_ValueError T.NoNeeds.x T.NoNeeds.g T.NoNeeds.k (raises_own T.NoNeeds.b T.NoNeeds.t) (by exact rfl)))) pss_nil))))), rd_of h fun B ls Po Pe hB hG hE => ?_⟩)
  obtain ⟨x, rfl, q1, q2⟩ := hG
  show WS B K _ [some (.d x), none] _
  cases x
  case list xs =>
    walk_at "sv"
    refine ws_forL id ?_
    walk_at "sv"
    refine ⟨xs, by rw [List.map_id], fun pre ρ => (∃ o, ρ = [some (.d (.list xs)), o]) ∧ ∀ y, y ∈ pre → isRoomD y = true, ⟨⟨_, rfl⟩, fun c hc => nomatch hc⟩, fun pre a post ρ2 ha hI => ?_, fun ρ2 hI => ?_⟩
    · obtain ⟨⟨o, rfl⟩, hp⟩ := hI
      have hm : a ∈ xs := by rw [ha]; simp
      walk_at "sv"
      refine ⟨_, rfl, _, rfl, _, rfl, fk_not ⟨fun e => ?_, fun e => ?_⟩⟩
      · walk_at "sv"
        intro y hy
        rcases List.mem_append.mp hy with h | h
        · exact hp y h
        · rw [show y = a by simpa using h]
          exact e
      · refine ws_raise (hE _ (q2 (Bool.eq_false_iff.mpr fun h => ?_)))
        have e2 := List.all_eq_true.mp (show xs.all isRoomD = true from h) a hm
        exact absurd (e2.symm.trans e) (by decide)
    · obtain ⟨_, hp⟩ := hI
      exact q1 (List.all_eq_true.mpr hp)
  all_goals
    walk_at "sv"
    exact ws_raise (hE _ (q2 rfl))

/-! ### a room filled -/
/-- how many words go in a room that holds fs already -/
def fillN (w h : Int) : List Str → List Str → Nat
  | _, [] => 0
  | fs, x :: ws => if (x.length : Int) ≤ w ∧ ((putW w fs x).length : Int) ≤ h then fillN w h (putW w fs x) ws + 1 else 0
theorem fillN_cons {w h : Int} {fs ws : List Str} {x : Str} : fillN w h fs (x :: ws) = if (x.length : Int) ≤ w ∧ ((putW w fs x).length : Int) ≤ h then fillN w h (putW w fs x) ws + 1 else 0 := rfl
theorem fillN_le {w h : Int} : ∀ (ws fs : List Str), fillN w h fs ws ≤ ws.length
  | [], _ => Nat.le_refl _
  | x :: ws, fs => by
    unfold fillN
    split
    · exact Nat.succ_le_succ (fillN_le ws _)
    · exact Nat.zero_le _
/-- the first n words can be put, and as many as fillN tells are left behind them -/
theorem fillN_step {w h : Int} : ∀ (n : Nat) (ws fs : List Str), n ≤ fillN w h fs ws → fillN w h fs ws = n + fillN w h ((ws.take n).foldl (putW w) fs) (ws.drop n)
  | 0, ws, fs, _ => by simp
  | n + 1, [], fs, hn => by simp [fillN] at hn
  | n + 1, x :: ws, fs, hn => by
    rw [fillN_cons] at hn ⊢
    split at hn
    · rename_i c
      rw [if_pos c]
      have ih := fillN_step (w := w) (h := h) n ws (putW w fs x) (by omega)
      rw [ih, List.take_succ_cons, List.foldl_cons, List.drop_succ_cons]
      omega
    · omega
def OStr (a : Addr) (fs : List Str) : OT := .lst a ((fs.map PyData.str).map .d)
def roomF (w h : Int) (ws : List Str) : List Str := linesW w (ws.take (fillN w h [] ws))
theorem drop_cons {α : Type} {ws : List α} {n : Nat} {x : α} {r : List α} (h : ws.drop n = x :: r) : n < ws.length ∧ ws[n]? = some x ∧ ws.drop (n + 1) = r ∧ ∀ m, m ≤ n → (ws.drop m).take (n + 1 - m) = (ws.drop m).take (n - m) ++ [x] := by
  have hl : n < ws.length := Nat.lt_of_not_le fun c => by rw [List.drop_eq_nil_of_le c] at h; cases h
  have e := List.drop_eq_getElem_cons hl
  rw [h] at e
  obtain ⟨e1, e2⟩ := List.cons.inj e
  refine ⟨hl, by rw [List.getElem?_eq_getElem hl, e1], e2.symm, fun m hm => ?_⟩
  have e3 : (ws.drop m)[n - m]? = some x := by rw [List.getElem?_drop, show m + (n - m) = n by omega, List.getElem?_eq_getElem hl, e1]
  rw [show n + 1 - m = (n - m) + 1 by omega]
  exact take_snoc e3
def G_filled : GF := fun ls Po _ => ∃ (ws : List Str) (at_ : Nat) (w h : Int), ls = [.d (.list (ws.map .str)), .d (.int at_), .d (.int w), .d (.int h)] ∧ (ws.length ≤ 700 ∧ (∀ v, v ∈ ws → IsWord v) ∧ at_ ≤ ws.length ∧ 0 ≤ h) ∧
  ∀ p a, Po (.deep (.tup p [OStr a (roomF w h (ws.drop at_)), .d (.int ((at_ + fillN w h [] (ws.drop at_) : Nat) : Int))])) []
theorem ok_filled (T : Txt K mg) : FnOk P w K mg base CX0 1 T.f_filled T.fd_filled ["words", "at", "wide", "high"] (SpG K none G_filled) := by
  refine T.d_filled.F.ok sc_filled (SpG.len (n := 4) fun ls Po Pe h => by obtain ⟨_, _, _, _, rfl, _⟩ := h; rfl) (fun cdv A outer s H vs Q E hr h => ⟨_, (pss_cons (ps_setO (i := 4) sc_filled.nd rfl (.inl rfl) (pe_lst pa_nil))
 (pss_cons (ps_while PassesOwn.never (PW.pt (pw_and (pt_cmpR op_lt (pv 1) (pe_callB (k_len K) (by rfl) T.b_len PySem.boot_len (pa_cons (pv 0) pa_nil)) (nomark _)) (pw_and1 (pt_cmpR op_le (pe_callB (k_len K) (by rfl) T.b_len PySem.boot_len (pa_cons (pe_ix (k_ix K) (pv 0) (pv 1) (fun _ _ => rfl)) pa_nil)) (pv 2) (nomark _))))) (pss_cons (ps_if (PW.pt (pw_and (pt_cmpR (k_neD K rfl hr.units) (pv 4) (pe_lst pa_nil) (nomark _)) (pw_and1 (pt_cmpR op_le (pe_op (k_plus K) (pe_op (k_plus K) (pe_callB (k_len K) (by rfl) T.b_len PySem.boot_len (pa_cons (pe_ix (k_ix K) (pv 4) (pe_un un_neg pe_int) (fun _ _ => rfl)) pa_nil)) pe_int) (pe_callB (k_len K) (by rfl) T.b_len PySem.boot_len (pa_cons (pe_ix (k_ix K) (pv 0) (pv 1) (fun _ _ => rfl)) pa_nil))) (pv 2) (nomark _))))) (pss_one (ps_asg (pe_op (k_plus K) (pe_op (k_plus K) (pe_ix (k_ix K) (pv 4) (pe_un un_neg pe_int) (fun _ _ => rfl)) pe_str) (pe_ix (k_ix K) (pv 0) (pv 1) (fun _ _ => rfl))) (pg_sub (pv 4) (pe_un un_neg pe_int) set_list))) (pss_one (ps_if (pt_cmpR op_lt (pe_callB (k_len K) (by rfl) T.b_len PySem.boot_len (pa_cons (pv 4) pa_nil)) (pv 3) (nomark _)) (pss_one (ps_expr (k_bm K rfl PySem.F.plainAttrs_list PySem.F.slot_list_append PySem.F.type_list_append mt_append (pv 4) (pa_cons (pe_ix (k_ix K) (pv 0) (pv 1) (fun _ _ => rfl)) pa_nil)))) (pss_one (ps_ret (pe_tupX (pe_tup (pa_cons (pv 4) (pa_cons (pv 1) pa_nil)))))))))
 (pss_one (ps_aug (i := 1) sc_filled.nd rfl (.inl rfl) pe_int ip_add))))
 (pss_one (ps_ret (pe_tupX (pe_tup (pa_cons (pv 4) (pa_cons (pv 1) pa_nil)))))))), rd_of h fun B ls Po Pe hB hG hE => ?_⟩)
  obtain ⟨ws, n0, w, h, rfl, ⟨hl, hw, hn0, hh⟩, q⟩ := hG
  show WS B K _ [some (.d (.list (ws.map .str))), some (.d (.int n0)), some (.d (.int w)), some (.d (.int h)), none] _
  walk_at "sv"
  have endr : ∀ (n : Nat) (fs : List Str), linesW w ((ws.drop n0).take (n - n0)) = fs → n0 ≤ n → fillN w h [] (ws.drop n0) = n - n0 → ∀ p a, Po (.deep (.tup p [OStr a fs, .d (.int (n : Nat))])) [] := fun n fs e h0 hf p a => by
    have k := q p a
    unfold roomF at k
    rw [hf, show n0 + (n - n0) = n by omega, e] at k
    exact k
  refine ws_while (fun m ρ => ∃ n : Nat, m = ws.length - n ∧ n0 ≤ n ∧ n ≤ ws.length ∧ ((linesW w ((ws.drop n0).take (n - n0))).length : Int) ≤ h ∧ fillN w h [] (ws.drop n0) = (n - n0) + fillN w h (linesW w ((ws.drop n0).take (n - n0))) (ws.drop n) ∧
    ρ = [some (.d (.list (ws.map .str))), some (.d (.int (n : Nat))), some (.d (.int w)), some (.d (.int h)), some (.own ((linesW w ((ws.drop n0).take (n - n0))).map .str))]) ⟨_, n0, rfl, Nat.le_refl _, hn0, ?_, ?_, ?_⟩ fun m ρ1 hI => ?_
  · rw [Nat.sub_self]; exact hh
  · rw [Nat.sub_self, Nat.zero_add]; rfl
  · rw [Nat.sub_self]; rfl
  obtain ⟨n, rfl, h0, h1, h2, h3, rfl⟩ := hI
  have hpre : ∀ x, x ∈ (ws.drop n0).take (n - n0) → IsWord x := fun x hx => hw x (List.mem_of_mem_drop (List.mem_of_mem_take hx))
  have hpl : ((ws.drop n0).take (n - n0)).length ≤ 700 := by rw [List.length_take, List.length_drop]; omega
  have hlo := lines_ok (w := w) hpre
  have hll := lines_len (w := w) ((ws.drop n0).take (n - n0))
  have hfo : ∀ f, f ∈ linesW w ((ws.drop n0).take (n - n0)) → f.length ≤ 10000 ∧ PyData.strOk f = true := fun f hf => ⟨by have := (hlo f hf).len; omega, (hlo f hf).ok⟩
  clear hlo
  cases hd : ws.drop n with
  | nil =>
    have hnl : ws.length ≤ n := by
      have := congrArg List.length hd
      rw [List.length_drop] at this
      simp only [List.length_nil] at this
      omega
    rw [hd] at h3
    walk_at "sv"
    · exact absurd hc (by omega)
    · exact fun p => endr n _ rfl h0 (by rw [h3]; rfl) p _
  | cons x r =>
    obtain ⟨hnl, hx, hdr, htk⟩ := drop_cons hd
    have hx12 := (hw x (List.mem_of_getElem? hx)).2.1
    have hxo := strOk_word (hw x (List.mem_of_getElem? hx))
    have gx : atI (ws.map PyData.str) ((n : Nat) : Int) = some (.str x) := atI_nat (by rw [List.getElem?_map, hx]; rfl)
    rw [hd] at h3
    have hxl : x.length ≤ lim := Nat.le_trans hx12 (by decide)
    have nofit : ¬ (x.length : Int) ≤ w → fillN w h (linesW w ((ws.drop n0).take (n - n0))) (x :: r) = 0 := fun c => by rw [fillN_cons, if_neg fun z => c z.1]
    have full : ¬ ((putW w (linesW w ((ws.drop n0).take (n - n0))) x).length : Int) ≤ h → fillN w h (linesW w ((ws.drop n0).take (n - n0))) (x :: r) = 0 := fun c => by rw [fillN_cons, if_neg fun z => c z.2]
    have next : (x.length : Int) ≤ w → ((putW w (linesW w ((ws.drop n0).take (n - n0))) x).length : Int) ≤ h → ∃ m', m' < ws.length - n ∧ ∃ k : Nat, m' = ws.length - k ∧ n0 ≤ k ∧ k ≤ ws.length ∧ ((linesW w ((ws.drop n0).take (k - n0))).length : Int) ≤ h ∧ fillN w h [] (ws.drop n0) = (k - n0) + fillN w h (linesW w ((ws.drop n0).take (k - n0))) (ws.drop k) ∧
        [some (L.d (.list (ws.map .str))), some (.d (.int ((n : Nat) + 1 : Int))), some (.d (.int w)), some (.d (.int h)), some (.own ((putW w (linesW w ((ws.drop n0).take (n - n0))) x).map .str))] = [some (L.d (.list (ws.map .str))), some (.d (.int (k : Nat))), some (.d (.int w)), some (.d (.int h)), some (.own ((linesW w ((ws.drop n0).take (k - n0))).map .str))] := fun c1 c2 => by
      refine ⟨ws.length - (n + 1), by omega, n + 1, rfl, by omega, by omega, ?_, ?_, ?_⟩
      · rw [htk n0 h0, linesW_snoc]; exact c2
      · rw [htk n0 h0, linesW_snoc, hdr, h3]
        rw [fillN_cons, if_pos ⟨c1, c2⟩]
        omega
      · rw [htk n0 h0, linesW_snoc]
        rfl
    generalize hfs : linesW w ((ws.drop n0).take (n - n0)) = fs at *
    have sl := spS_len
    have fits_in : ∀ (gs : List Str) (l : Str), fs = gs ++ [l] → (l.length : Int) + 1 + x.length ≤ w → putW w fs x = gs ++ [l ++ spS ++ x] := fun gs l e c => by rw [e]; exact putW_in c
    walk_at "sv"
    rotate_left
    · exact absurd (show (n : Int) < (ws.length : Int) by omega) hc
    refine idx_list gx ⟨hxl, ?_⟩
    walk_at "sv"
    rotate_left
    · exact fun p => endr n _ hfs h0 (by rw [h3, nofit (by omega)]; omega) p _
    refine ⟨ok2O (OkD.strs fun f hf => (hfo f hf).2) OkD.nil, ?_⟩
    rcases snoc_cases fs with rfl | ⟨gs, l, rfl⟩
    · walk_at "sv"
      · refine idx_list gx ⟨_, rfl, by decide, ?_⟩
        walk_at "sv"
        have hh1 : ((0 : Nat) : Int) < h := by assumption
        exact next (by omega) (by rw [putW_nil]; show (1 : Int) ≤ h; omega)
      · have hh1 : ¬ ((0 : Nat) : Int) < h := by assumption
        refine fun p => endr n _ hfs h0 ?_ p _
        rw [h3, full]
        · omega
        · rw [putW_nil]
          show ¬ (1 : Int) ≤ h
          omega
      · exact absurd rfl hc
    · have hfl := hfo l (by simp)
      have e : (gs ++ [l]).map PyData.str = gs.map .str ++ [.str l] := by rw [List.map_append]; rfl
      have gl : atI ((gs ++ [l]).map PyData.str) (-1) = some (.str l) := by rw [e]; exact atI_last _ _
      have hll2 : (gs ++ [l]).length ≤ 700 := by omega
      walk_at "sv"
      · exact absurd (show (gs ++ [l]).map PyData.str = [] from by assumption) (by simp)
      · exact absurd (show (gs ++ [l]).map PyData.str = [] from by assumption) (by simp)
      · refine ⟨_, _, _, rfl, rfl, gl, by show l.length ≤ 1000000; omega, ?_⟩
        walk_at "sv"
        refine idx_list gx ⟨hxl, ?_⟩
        walk_at "sv"
        · refine ⟨_, _, _, rfl, rfl, gl, ?_⟩
          walk_at "sv"
          · show l.length + spS.length ≤ 1000000
            omega
          refine idx_list gx (plus_str ?_ ?_)
          · show (l ++ spS).length + x.length ≤ 1000000
            rw [app_len]
            omega
          walk_at "sv"
          refine ⟨_, _, _, rfl, rfl, by rw [e]; exact ixN_snoc _ _, ?_⟩
          walk_at "sv"
          have hin := fits_in gs l rfl (by omega)
          have k := next (by omega) (by rw [hin]; simp only [List.length_append, List.length_cons, List.length_nil] at h2 ⊢; exact h2)
          rw [hin, List.map_append (l₁ := gs)] at k
          show ∃ m', m' < ws.length - n ∧ _
          rw [e, set_snoc]
          exact k
        · refine idx_list gx ⟨_, rfl, by rw [List.length_map]; show (gs ++ [l]).length < 1000000; omega, ?_⟩
          walk_at "sv"
          have hout := putW_out (w := w) (gs := gs) (l := l) (x := x) (by omega)
          have hlt : (((gs ++ [l]).map PyData.str).length : Int) < h := by assumption
          rw [List.length_map] at hlt
          have k := next (by omega) (by rw [hout, List.length_append (as := gs ++ [l])]; simp only [List.length_cons, List.length_nil]; omega)
          rw [hout, List.map_append (l₁ := gs ++ [l])] at k
          exact k
        · have hout := putW_out (w := w) (gs := gs) (l := l) (x := x) (by omega)
          refine fun p => endr n _ hfs h0 ?_ p _
          rw [h3, full]
          · omega
          · have hlt : ¬ (((gs ++ [l]).map PyData.str).length : Int) < h := by assumption
            rw [List.length_map] at hlt
            rw [hout, List.length_append (as := gs ++ [l])]; simp only [List.length_cons, List.length_nil]; omega

/-! ### words poured into rooms -/
def stepR (ws : List Str) (s : List (List Str) × Nat) (r : Int × Int) : List (List Str) × Nat :=
  (s.1 ++ [roomF r.1 r.2 (ws.drop s.2)], s.2 + fillN r.1 r.2 [] (ws.drop s.2))
def pourS (ws : List Str) (rs : List (Int × Int)) : List (List Str) × Nat := rs.foldl (stepR ws) ([], 0)
theorem pourS_snoc (ws : List Str) (rs : List (Int × Int)) (r : Int × Int) : pourS ws (rs ++ [r]) = stepR ws (pourS ws rs) r := by
  unfold pourS
  rw [List.foldl_append]
  rfl
theorem pourS_le (ws : List Str) : ∀ rs : List (Int × Int), (pourS ws rs).2 ≤ ws.length := by
  intro rs
  induction rs using snoc_ind with
  | h0 => exact Nat.zero_le _
  | hs rs r ih =>
    rw [pourS_snoc]
    have k := fillN_le (w := r.1) (h := r.2) (ws.drop (pourS ws rs).2) []
    rw [List.length_drop] at k
    show (pourS ws rs).2 + fillN r.1 r.2 [] (ws.drop (pourS ws rs).2) ≤ ws.length
    omega
theorem pourS_len (ws : List Str) : ∀ rs : List (Int × Int), (pourS ws rs).1.length = rs.length := by
  intro rs
  induction rs using snoc_ind with
  | h0 => rfl
  | hs rs r ih =>
    rw [pourS_snoc, List.length_append]
    show ((pourS ws rs).1 ++ _).length = _
    rw [List.length_append, ih]
    rfl
def roomD (r : Int × Int) : PyData := .tuple [.int r.1, .int r.2]
def kidsOf (as : List Addr) (told : List (List Str)) : List OT := List.zipWith OStr as told
theorem kids_snoc {as : List Addr} {told : List (List Str)} {a : Addr} {f : List Str} (h : as.length = told.length) : kidsOf (as ++ [a]) (told ++ [f]) = kidsOf as told ++ [OStr a f] := by
  unfold kidsOf
  exact List.zipWith_append h
theorem cutD_from {α : Type} {xs : List α} {n : Nat} (h : n ≤ xs.length) : cutD xs (some (n : Int)) none = xs.drop n := by
  unfold cutD
  rw [HT.sIx_nat, HT.sIx_none, Nat.min_eq_left h]
  exact List.take_of_length_le (by rw [List.length_drop]; exact Nat.le_refl _)
/-- what poured tells -/
def PouredT (ws : List Str) (rs : List (Int × Int)) (t : OT) : Prop := ∃ p a b as, as.length = (pourS ws rs).1.length ∧ t = .tup p [.lst a (kidsOf as (pourS ws rs).1), OStr b (ws.drop (pourS ws rs).2)]
def G_poured (aT aN : Addr) : GF := fun ls Po Pe => ∃ x y, ls = [.d x, .d y] ∧ shortsD x ∧
  ((wordsD x = false ∧ Pe aT) ∨ (wordsD x = true ∧ roomsD y = false ∧ Pe aN) ∨ ∃ (ws : List Str) (rs : List (Int × Int)), x = .list (ws.map .str) ∧ y = .list (rs.map roomD) ∧ (∀ v, v ∈ ws → IsWord v) ∧ ws.length ≤ 700 ∧ (∀ r, r ∈ rs → 1 ≤ r.1 ∧ 1 ≤ r.2) ∧ rs.length ≤ 1000 ∧
    ∀ t, PouredT ws rs t → Po (.deep t) [])
theorem roomsD_of {rs : List (Int × Int)} (h : ∀ r, r ∈ rs → 1 ≤ r.1 ∧ 1 ≤ r.2) : roomsD (.list (rs.map roomD)) = true := by
  show (rs.map roomD).all isRoomD = true
  rw [List.all_map, List.all_eq_true]
  intro r hr
  obtain ⟨h1, h2⟩ := h r hr
  show (decide (2 = 2) && (decide (1 ≤ r.1) && (decide (1 ≤ r.2) && true))) = true
  rw [decide_eq_true h1, decide_eq_true h2]
  rfl
theorem ok_poured (T : Txt K mg) : FnOk P w K mg base (L2.CX P w) 3 T.f_poured T.fd_poured ["words", "rooms"] (SpG K none (G_poured T.a_NoTexts T.a_NoNeeds)) := by
  refine T.d_poured.F.okX sc_poured (SpG.len (n := 2) fun ls Po Pe h => by obtain ⟨_, _, rfl, _⟩ := h; rfl) (fun cdv A outer s H vs Q E hr h => ⟨_, (pss_cons (ps_expr (pe_call (ok_need_words T) hr (by rfl) T.d_need_words.g T.d_need_words.kp T.d_need_words.b .nil (passes_call (takes_of rfl rfl rfl rfl) fun _ _ _ _ h => h) (pa_cons (pv 0) pa_nil)))
 (pss_cons (ps_expr (pe_call (ok_need_rooms T) hr (by rfl) T.d_need_rooms.g T.d_need_rooms.kp T.d_need_rooms.b .nil (passes_call (takes_of rfl rfl rfl rfl) fun _ _ _ _ h => h) (pa_cons (pv 1) pa_nil)))
 (pss_cons (ps_setO (i := 2) sc_poured.nd rfl (.inl rfl) (pe_lst pa_nil))
 (pss_cons (ps_set (i := 3) sc_poured.nd rfl (.inl rfl) pe_int)
 (pss_cons (ps_for (passes_of rfl) rfl (k_piL K rfl (pv 1)) (k_gTup K rfl rfl (pgs_cons (pg_name (i := 4) sc_poured.nd rfl (Or.inl rfl)) (pgs_cons (pg_name (i := 5) sc_poured.nd rfl (Or.inl rfl)) pgs_nil))) (pss_cons (ps_asgX (ps_asg (pe_call (ok_filled T) (hr.mono (by decide)) (by rfl) T.d_filled.g T.d_filled.kp T.d_filled.b .nil pass0 (pa_cons (pv 0) (pa_cons (pv 3) (pa_cons (pv 4) (pa_cons (pv 5) pa_nil))))) (k_gTup K rfl rfl (pgs_cons (pg_name (i := 6) sc_poured.nd rfl (Or.inl rfl)) (pgs_cons (pg_name (i := 3) sc_poured.nd rfl (Or.inl rfl)) pgs_nil)))))
 (pss_one (ps_expr (k_bm K rfl PySem.F.plainAttrs_list PySem.F.slot_list_append PySem.F.type_list_append mt_append (pv 2) (pa_cons (pv 6) pa_nil))))))
 (pss_one (ps_ret (pe_tupX (pe_tup (pa_cons (pv 2) (pa_cons (pe_slice (k_sl K) (pv 0) (po_some (pv 3)) po_none) pa_nil))))))))))), rd_of h fun B ls Po Pe hB hG hE => ?_⟩)
  obtain ⟨x, y, rfl, hs, q⟩ := hG
  show WS B K _ [some (.d x), some (.d y), none, none, none, none, none] _
  walk_at "sv"
  refine ⟨_, Pe, rfl, ⟨x, rfl, hs, fun hw => ?_, fun hw => ?_⟩, hE⟩
  · walk_at "sv"
    refine ⟨_, Pe, rfl, ⟨y, rfl, fun hr => ?_, fun hr => ?_⟩, hE⟩
    · rcases q with ⟨hn, _⟩ | ⟨_, hn, _⟩ | ⟨ws, rs, rfl, rfl, hws, hl, hrs, hrl, q⟩
      · rw [hn] at hw; cases hw
      · rw [hn] at hr; cases hr
      walk_at "sv"
      refine ws_deep (j := 2) rfl (np_of hB (by decide)) fun p0 => ?_
      refine ws_forL roomD ?_
      walk_at "sv"
      refine ⟨fun pre ρ => ∃ as o4 o5 o6, as.length = (pourS ws pre).1.length ∧ ρ = [some (.d (.list (ws.map .str))), some (.d (.list (rs.map roomD))), some (.deep (.lst p0 (kidsOf as (pourS ws pre).1))), some (.d (.int ((pourS ws pre).2 : Nat))), o4, o5, o6], ⟨[], _, _, _, rfl, rfl⟩, fun pre a post ρ2 ha hI => ?_, fun ρ2 hI => ?_⟩
      · obtain ⟨as, o4, o5, o6, has, rfl⟩ := hI
        have hpl : pre.length ≤ 1000 := by
          have := congrArg List.length ha
          rw [List.length_append] at this
          omega
        have hra := hrs a (by rw [ha]; simp)
        show WG B K _ (.tuple [.int a.1, .int a.2]) _ _
        walk_at "sv"
        refine ⟨ws, _, a.1, a.2, rfl, ⟨by omega, hws, pourS_le ws pre, by omega⟩, fun p b => ?_⟩
        walk_at "sv"
        have hkl : (kidsOf as (pourS ws pre).1).length ≤ 1000 := by
          unfold kidsOf
          rw [List.length_zipWith, pourS_len]
          omega
        refine ⟨by show _ < 1000000; omega, as ++ [b], some (.d (.int a.1)), some (.d (.int a.2)), none, ?_, ?_⟩
        · rw [pourS_snoc, List.length_append, has]
          show _ = ((pourS ws pre).1 ++ _).length
          rw [List.length_append]
          rfl
        · rw [pourS_snoc]
          show _ = [_, _, some (L.deep (.lst p0 (kidsOf (as ++ [b]) ((pourS ws pre).1 ++ [roomF a.1 a.2 (ws.drop (pourS ws pre).2)])))), some (L.d (.int (((pourS ws pre).2 + fillN a.1 a.2 [] (ws.drop (pourS ws pre).2) : Nat) : Int))), _, _, _]
          rw [kids_snoc has]
          rfl
      · obtain ⟨as, o4, o5, o6, has, rfl⟩ := hI
        walk_at "sv"
        have hle := pourS_le ws rs
        refine wx_o hB' (we_sl (wd_var rfl (wo_some (wd_var rfl ⟨_, rfl, wo_none (slc_list ?_)⟩)))) 
        intro b B2 hB2
        rw [cutD_from (by rw [List.length_map]; exact hle), ← List.map_drop]
        refine wx_nil ⟨show 2 ≤ 1000000 by decide, fun p => ?_⟩
        exact q _ ⟨p, p0, b, as, has, rfl⟩
    · rcases q with ⟨hn, h⟩ | ⟨_, hn, h⟩ | ⟨ws, rs, rfl, rfl, hws, hl, hrs, hrl, q⟩
      · rw [hn] at hw; cases hw
      · exact h
      · rw [roomsD_of hrs] at hr; cases hr
  · rcases q with ⟨_, h⟩ | ⟨h1, _⟩ | ⟨ws, rs, rfl, _, hws, _⟩
    · exact h
    · rw [h1] at hw; cases hw
    · rw [wordsD_of hws] at hw; cases hw

/-! ### _law_rooms -/
def GoodR (r : Int × Int) : Prop := 1 ≤ r.1 ∧ r.1 ≤ 20 ∧ 1 ≤ r.2 ∧ r.2 ≤ 6
def G_law_rooms : GF := fun ls Po _ => ∃ (ns : List Int), ls = [.scr ns] ∧ ∀ rs : List (Int × Int), 1 ≤ rs.length → rs.length ≤ 8 → (∀ r, r ∈ rs → GoodR r) → Po (.new (rs.map roomD)) []
theorem ok_law_rooms (T : Txt K mg) : FnOk P w K mg base CX0 2 T.f_law_rooms T.fd_law_rooms ["script"] (SpG K none G_law_rooms) := by
  refine T.d_law_rooms.F.ok sc_law_rooms (SpG.len (n := 1) fun ls Po Pe h => by obtain ⟨_, rfl, _⟩ := h; rfl) (fun cdv A outer s H vs Q E hr h => ⟨_, (pss_cons (ps_setO (i := 1) sc_law_rooms.nd rfl (.inl rfl) (pe_lst pa_nil))
 (pss_cons (ps_setO (i := 2) sc_law_rooms.nd rfl (.inl rfl) (pe_lst (pa_cons (pe_call (ok_law_cell_at T) hr (by rfl) T.d_law_cell_at.g T.d_law_cell_at.kp T.d_law_cell_at.b .nil pass0 (pa_cons (pv 0) (pa_cons pe_int pa_nil))) (pa_cons (pe_op op_modN (pe_call (ok_law_cell_at T) hr (by rfl) T.d_law_cell_at.g T.d_law_cell_at.kp T.d_law_cell_at.b .nil pass0 (pa_cons (pv 0) (pa_cons pe_int pa_nil))) pe_int) (pa_cons pe_int pa_nil)))))
 (pss_cons (ps_for PassesOwn.never rfl (pi_range1 (by rfl) T.b_range (pa_cons (pe_op (k_plus K) pe_int (pe_call (ok_law_take T) hr (by rfl) T.d_law_take.g T.d_law_take.kp T.d_law_take.b .nil pass0 (pa_cons (pv 2) (pa_cons pe_int pa_nil)))) pa_nil)) (pg_name (i := 3) sc_law_rooms.nd rfl (Or.inl rfl)) (pss_one (ps_expr (k_bm K rfl PySem.F.plainAttrs_list PySem.F.slot_list_append PySem.F.type_list_append mt_append (pv 1) (pa_cons (pe_tup (pa_cons (pe_op (k_plus K) pe_int (pe_call (ok_law_take T) hr (by rfl) T.d_law_take.g T.d_law_take.kp T.d_law_take.b .nil pass0 (pa_cons (pv 2) (pa_cons pe_int pa_nil)))) (pa_cons (pe_op (k_plus K) pe_int (pe_call (ok_law_take T) hr (by rfl) T.d_law_take.g T.d_law_take.kp T.d_law_take.b .nil pass0 (pa_cons (pv 2) (pa_cons pe_int pa_nil)))) pa_nil))) pa_nil)))))
 (pss_one (ps_ret (pv 1)))))), rd_of h fun B ls Po Pe hB hG hE => ?_⟩)
  obtain ⟨ns, rfl, q⟩ := hG
  show WS B K _ [some (.scr ns), none, none, none] _
  walk_at "sv"
  refine ⟨ns, 1, rfl, by omega, fun z1 => ?_⟩
  walk_at "sv"
  refine ⟨ns, 0, rfl, by omega, fun z0 => ?_⟩
  walk_at "sv"
  refine ⟨z1, z0 % 2, 0, 8, rfl, by omega, fun r1 c1 s1 r10 r11 s10 s11 => ?_⟩
  walk_at "sv"
  refine ⟨fun pre ρ => ∃ (rs : List (Int × Int)) (c' s' : Int) (o : Option L), ρ = [some (.scr ns), some (.own (rs.map roomD)), some (.own (deckD c' (z0 % 2) s')), o] ∧ rs.length = pre.length ∧ (0 ≤ s' ∧ s' ≤ 1 + 2 * pre.length) ∧ ∀ r, r ∈ rs → GoodR r,
    ⟨[], c1, s1, none, rfl, rfl, ⟨by omega, by simp only [List.length_nil]; omega⟩, fun r hr => nomatch hr⟩, fun pre a post ρ2 ha hI => ?_, fun ρ2 hI => ?_⟩
  · obtain ⟨rs, c', s', o, rfl, hx, hs, hc⟩ := hI
    have hl : pre.length < 8 := by
      have := congrArg List.length ha
      rw [ixs_len, List.length_append, List.length_cons] at this
      omega
    walk_at "sv"
    refine ⟨c', z0 % 2, s', 20, rfl, by omega, fun r3 c3 s3 r30 r31 s30 s31 => ?_⟩
    walk_at "sv"
    refine ⟨c3, z0 % 2, s3, 6, rfl, by omega, fun r4 c4 s4 r40 r41 s40 s41 => ?_⟩
    walk_at "sv"
    refine ⟨rs ++ [(1 + r3, 1 + r4)], c4, s4, some (.d (.int a)), ?_, ?_, ⟨by omega, ?_⟩, fun r hr => ?_⟩
    · rw [List.map_append]; rfl
    · rw [List.length_append, List.length_append, hx]; rfl
    · rw [List.length_append]; simp only [List.length_cons, List.length_nil]; omega
    · rcases List.mem_append.mp hr with h | h
      · exact hc r h
      · rw [List.mem_singleton.mp h]
        exact ⟨by show 1 ≤ 1 + r3; omega, by show 1 + r3 ≤ 20; omega, by show 1 ≤ 1 + r4; omega, by show 1 + r4 ≤ 6; omega⟩
  · obtain ⟨rs, c', s', o, rfl, hx, hs, hc⟩ := hI
    walk_at "sv"
    rw [ixs_len] at hx
    exact q rs (by omega) (by omega) hc

/-! ### what poured tells, as data -/
theorem kids_data {as : List Addr} {told : List (List Str)} (h : as.length = told.length) : areD (kidsOf as told) = true ∧ datas (kidsOf as told) = told.map fun f => .list (f.map .str) := by
  induction told generalizing as with
  | nil =>
    cases as with
    | nil => exact ⟨rfl, rfl⟩
    | cons a as => cases h
  | cons f told ih =>
    cases as with
    | nil => cases h
    | cons a as =>
      obtain ⟨h1, h2⟩ := ih (as := as) (by simpa using h)
      have e : kidsOf (a :: as) (f :: told) = OStr a f :: kidsOf as told := rfl
      rw [e]
      constructor
      · show (areD ((f.map PyData.str).map .d) && areD (kidsOf as told)) = true
        rw [areD_map_d, h1]
        rfl
      · show PyData.list (datas ((f.map PyData.str).map .d)) :: datas (kidsOf as told) = _
        rw [datas_map_d, h2]
        rfl
theorem poured_data {ws : List Str} {rs : List (Int × Int)} {t : OT} (h : PouredT ws rs t) : t.isD = true ∧ t.data = .tuple [.list ((pourS ws rs).1.map fun f => .list (f.map .str)), .list ((ws.drop (pourS ws rs).2).map .str)] := by
  obtain ⟨p, a, b, as, has, rfl⟩ := h
  obtain ⟨h1, h2⟩ := kids_data has
  constructor
  · show (areD (kidsOf as (pourS ws rs).1) && ((areD (((ws.drop (pourS ws rs).2).map PyData.str).map .d)) && true)) = true
    rw [h1, areD_map_d]
    rfl
  · show PyData.tuple [.list (datas (kidsOf as (pourS ws rs).1)), .list (datas (((ws.drop (pourS ws rs).2).map PyData.str).map .d))] = _
    rw [h2, datas_map_d]
theorem rep_one {α : Type} (x : α) : ∀ k : Nat, (List.replicate k [x]).flatten = List.replicate k x
  | 0 => rfl
  | k + 1 => by rw [List.replicate_succ, List.flatten_cons, rep_one x k, List.replicate_succ]; rfl
theorem shorts_of {ws : List Str} (h : ∀ v, v ∈ ws → IsWord v) : shortsD (.list (ws.map .str)) := fun y hy => by
  obtain ⟨v, hv, rfl⟩ := List.mem_map.mp hy
  have := (h v hv).2.1
  show v.length ≤ 100000
  omega

/-! ### how far a room reaches -/
def fitN (w : Int) (xs : List Str) : Nat := (xs.takeWhile fun v => decide ((v.length : Int) ≤ w)).length
theorem fitN_le (w : Int) (xs : List Str) : fitN w xs ≤ xs.length := by
  unfold fitN
  exact (List.takeWhile_sublist _).length_le
theorem fitN_cons {w : Int} {x : Str} {xs : List Str} : fitN w (x :: xs) = if (x.length : Int) ≤ w then fitN w xs + 1 else 0 := by
  unfold fitN
  rw [List.takeWhile_cons]
  by_cases c : (x.length : Int) ≤ w
  · rw [if_pos (by simpa using c), if_pos c]; rfl
  · rw [if_neg (by simpa using c), if_neg c]; rfl
theorem fitN_fit {w : Int} : ∀ {xs : List Str} {i : Nat} {v : Str}, i < fitN w xs → xs[i]? = some v → (v.length : Int) ≤ w
  | [], _, _, h, _ => by simp [fitN] at h
  | x :: xs, 0, v, h, e => by
    rw [fitN_cons] at h
    cases e
    by_cases c : (x.length : Int) ≤ w
    · exact c
    · rw [if_neg c] at h; omega
  | x :: xs, i + 1, v, h, e => by
    rw [fitN_cons] at h
    by_cases c : (x.length : Int) ≤ w
    · rw [if_pos c] at h
      exact fitN_fit (xs := xs) (i := i) (by omega) e
    · rw [if_neg c] at h; omega
theorem fitN_no {w : Int} : ∀ {xs : List Str} {v : Str}, xs[fitN w xs]? = some v → ¬ (v.length : Int) ≤ w
  | [], _, e => by simp at e
  | x :: xs, v, e => by
    rw [fitN_cons] at e
    by_cases c : (x.length : Int) ≤ w
    · rw [if_pos c] at e
      exact fitN_no (xs := xs) e
    · rw [if_neg c] at e
      cases e
      exact c
theorem putW_ge {w : Int} {fs : List Str} {x : Str} : fs.length ≤ (putW w fs x).length := by
  rcases snoc_cases fs with rfl | ⟨gs, l, rfl⟩
  · exact Nat.zero_le _
  · by_cases c : (l.length : Int) + 1 + x.length ≤ w
    · rw [putW_in c]; simp
    · rw [putW_out c]; simp
theorem foldW_ge {w : Int} : ∀ {xs fs : List Str}, fs.length ≤ (xs.foldl (putW w) fs).length
  | [], _ => Nat.le_refl _
  | x :: xs, fs => Nat.le_trans putW_ge (foldW_ge (xs := xs))
theorem fill_iff {w h : Int} : ∀ {xs fs : List Str} {n : Nat}, (fs.length : Int) ≤ h → (n ≤ fillN w h fs xs ↔ n ≤ fitN w xs ∧ (((xs.take n).foldl (putW w) fs).length : Int) ≤ h)
  | [], fs, n, hf => by
    show n ≤ 0 ↔ n ≤ 0 ∧ _
    rw [List.take_nil]
    exact ⟨fun e => ⟨e, hf⟩, fun e => e.1⟩
  | x :: xs, fs, 0, hf => ⟨fun _ => ⟨Nat.zero_le _, hf⟩, fun _ => Nat.zero_le _⟩
  | x :: xs, fs, n + 1, hf => by
    rw [fillN_cons, fitN_cons, List.take_succ_cons, List.foldl_cons]
    by_cases c : (x.length : Int) ≤ w
    · rw [if_pos c]
      by_cases c2 : ((putW w fs x).length : Int) ≤ h
      · rw [if_pos ⟨c, c2⟩]
        have ih := fill_iff (w := w) (xs := xs) (n := n) c2
        constructor
        · intro e
          have k := ih.mp (by omega)
          exact ⟨by omega, k.2⟩
        · intro e
          have k := ih.mpr ⟨by omega, e.2⟩
          omega
      · rw [if_neg fun z => c2 z.2]
        have g := foldW_ge (w := w) (xs := xs.take n) (fs := putW w fs x)
        exact ⟨fun e => by omega, fun e => by omega⟩
    · rw [if_neg fun z => c z.1, if_neg c]
      exact ⟨fun e => by omega, fun e => by omega⟩
theorem fill_gN {w h : Int} {xs : List Str} {n : Nat} (hh : 0 ≤ h) : n ≤ fillN w h [] xs ↔ n ≤ fitN w xs ∧ (gN w xs n : Int) ≤ h := fill_iff (w := w) (fs := []) hh
theorem tot_mem {v : Str} : ∀ {seg : List Str}, v ∈ seg → (v.length : Int) ≤ tot seg
  | [], h => by cases h
  | x :: seg, h => by
    rw [tot_cons]
    have t := tot_ge seg
    rcases List.mem_cons.mp h with rfl | h
    · omega
    · have := tot_mem h
      omega
/-- a word that is too wide stands between -/
theorem tot_wide {w : Int} {xs : List Str} {m n : Nat} (hm : m ≤ fitN w xs) (hn : fitN w xs < n) (hl : n ≤ xs.length) : ¬ tot ((xs.take n).drop m) ≤ w := by
  have hi : fitN w xs < xs.length := by omega
  have e := List.getElem?_eq_getElem hi
  have no := fitN_no e
  have hmem : xs[fitN w xs] ∈ (xs.take n).drop m := by
    refine List.mem_of_getElem? (i := fitN w xs - m) ?_
    rw [List.getElem?_drop, List.getElem?_take, if_pos (by omega), show m + (fitN w xs - m) = fitN w xs by omega]
    exact e
  have := tot_mem hmem
  omega
theorem fits_take {w : Int} {xs : List Str} : ∀ v, v ∈ xs.take (fitN w xs) → (v.length : Int) ≤ w := fun v hv => by
  obtain ⟨i, hi, e⟩ := List.getElem_of_mem hv
  rw [List.length_take] at hi
  rw [List.getElem_take] at e
  exact fitN_fit (xs := xs) (i := i) (by omega) (by rw [List.getElem?_eq_getElem (by omega), e])
theorem gN_atF {w : Int} {xs : List Str} {n : Nat} (hn : n ≤ fitN w xs) (h0 : 0 < n) : ∃ f, f < n ∧ tot ((xs.take n).drop f) ≤ w ∧ gN w xs f + 1 = gN w xs n := by
  have hl := fitN_le w xs
  obtain ⟨f, h1, h2, h3⟩ := gN_at (w := w) (ws := xs.take (fitN w xs)) (n := n) (by rw [List.length_take]; omega) h0 fits_take
  unfold gN at h3
  rw [List.take_take, List.take_take, Nat.min_eq_left hn, Nat.min_eq_left (by omega)] at h3
  rw [List.take_take, Nat.min_eq_left hn] at h2
  exact ⟨f, h1, h2, h3⟩
/-! the law's table: at each first word's number how many lines the words take -/
def keysR (f : Nat) (t : Nat) : List Key := (List.range (t + 1)).map fun (i : Nat) => (Sum.inl ((f : Int) + (i : Int)) : Key)
def valsR (w : Int) (xs : List Str) (t : Nat) : List PyData := (List.range (t + 1)).map fun (i : Nat) => PyData.int (gN w xs i : Int)
theorem keysR_len (f t : Nat) : (keysR f t).length = t + 1 := by unfold keysR; rw [List.length_map, List.length_range]
theorem valsR_len (w : Int) (xs : List Str) (t : Nat) : (valsR w xs t).length = t + 1 := by unfold valsR; rw [List.length_map, List.length_range]
theorem keysR_succ (f t : Nat) : keysR f (t + 1) = keysR f t ++ [Sum.inl ((f : Int) + ((t + 1 : Nat) : Int))] := by
  unfold keysR
  rw [List.range_succ, List.map_append]
  rfl
theorem valsR_succ (w : Int) (xs : List Str) (t : Nat) : valsR w xs (t + 1) = valsR w xs t ++ [.int (gN w xs (t + 1) : Int)] := by
  unfold valsR
  rw [List.range_succ, List.map_append]
  rfl
theorem keysR_mem {f t : Nat} {z : Int} : (Sum.inl z : Key) ∈ keysR f t ↔ (f : Int) ≤ z ∧ z ≤ (f : Int) + t := by
  unfold keysR
  rw [List.mem_map]
  constructor
  · rintro ⟨i, hi, e⟩
    rw [List.mem_range] at hi
    have e2 := Sum.inl.inj e
    omega
  · rintro ⟨h1, h2⟩
    exact ⟨(z - f).toNat, List.mem_range.mpr (by omega), congrArg Sum.inl (by omega)⟩
theorem getR {w : Int} {xs : List Str} {f t i : Nat} (h : i ≤ t) : getK (keysR f t) (valsR w xs t) (Sum.inl ((f : Int) + (i : Int))) = some (.int (gN w xs i : Int)) := by
  induction t with
  | zero =>
    have e : i = 0 := by omega
    subst e
    unfold keysR valsR
    show getK [Sum.inl ((f : Int) + ((0 : Nat) : Int))] [PyData.int (gN w xs 0 : Int)] _ = _
    rw [getK_cons, if_pos rfl]
  | succ t ih =>
    rw [keysR_succ, valsR_succ, getK_app (by rw [keysR_len, valsR_len])]
    by_cases c : i ≤ t
    · rw [if_pos (keysR_mem.mpr ⟨by omega, by omega⟩)]
      exact ih c
    · have e : i = t + 1 := by omega
      subst e
      rw [if_neg (fun z => by have := (keysR_mem.mp z).2; omega), getK_cons, if_pos rfl]
theorem getR_app {w : Int} {xs : List Str} {f t i : Nat} {x : PyData} (h : i ≤ t) : getK (keysR f (t + 1)) (valsR w xs t ++ [x]) (Sum.inl ((f : Int) + (i : Int))) = some (.int (gN w xs i : Int)) := by
  rw [keysR_succ, getK_app (by rw [keysR_len, valsR_len]), if_pos (keysR_mem.mpr ⟨by omega, by omega⟩)]
  exact getR h
theorem getR_last {w : Int} {xs : List Str} {f t : Nat} {x : PyData} : getK (keysR f (t + 1)) (valsR w xs t ++ [x]) (Sum.inl ((f : Int) + ((t + 1 : Nat) : Int))) = some x := by
  rw [keysR_succ, getK_app (by rw [keysR_len, valsR_len]), if_neg (fun z => by have := (keysR_mem.mp z).2; omega), getK_cons, if_pos rfl]
theorem replR_last {w : Int} {xs : List Str} {f t : Nat} {x y : PyData} : replK (keysR f (t + 1)) (valsR w xs t ++ [x]) (Sum.inl ((f : Int) + ((t + 1 : Nat) : Int))) y = valsR w xs t ++ [y] := by
  unfold replK
  rw [keysR_succ, List.zipWith_append (by rw [keysR_len, valsR_len])]
  congr 1
  · refine List.ext_getElem? fun i => ?_
    rw [List.getElem?_zipWith]
    by_cases hi : i < t + 1
    · have h1 : (keysR f t)[i]? = some (Sum.inl ((f : Int) + (i : Int))) := by
        unfold keysR
        rw [List.getElem?_map, List.getElem?_range hi]
        rfl
      have h2 : (valsR w xs t)[i]? = some (.int (gN w xs i : Int)) := by
        unfold valsR
        rw [List.getElem?_map, List.getElem?_range hi]
        rfl
      rw [h1, h2]
      show some (if (Sum.inl ((f : Int) + (i : Int)) : Key) = Sum.inl ((f : Int) + ((t + 1 : Nat) : Int)) then y else _) = _
      rw [if_neg fun z => by have := Sum.inl.inj z; omega]
    · rw [List.getElem?_eq_none (by rw [keysR_len]; omega), List.getElem?_eq_none (l := valsR w xs t) (by rw [valsR_len]; omega)]
  · show [if (Sum.inl ((f : Int) + ((t + 1 : Nat) : Int)) : Key) = Sum.inl ((f : Int) + ((t + 1 : Nat) : Int)) then y else x] = _
    rw [if_pos rfl]

/-! ### _law_reached -/
def G_law_reached : GF := fun ls Po _ => ∃ (ws : List Str) (f : Nat) (w h : Int), ls = [.d (.list (ws.map .str)), .d (.int f), .d (.int w), .d (.int h)] ∧ (ws.length ≤ 60 ∧ (∀ v, v ∈ ws → v.length ≤ 12) ∧ f ≤ ws.length ∧ 0 ≤ h) ∧
  ∀ zs : List Int, (∀ z, z ∈ zs ↔ ∃ i : Nat, i ≤ fillN w h [] (ws.drop f) ∧ z = f + i) → zs.length ≤ 61 → Po (.d (.list (zs.map .int))) []
theorem ok_law_reached (T : Txt K mg) : FnOk P w K mg base CX0 1 T.f_law_reached T.fd_law_reached ["words", "first", "wide", "high"] (SpG K none G_law_reached) := by
  refine T.d_law_reached.F.ok sc_law_reached (SpG.len (n := 4) fun ls Po Pe h => by obtain ⟨_, _, _, _, rfl, _⟩ := h; rfl) (fun cdv A outer s H vs Q E hr h => ⟨_, (pss_cons (ps_setO (i := 4) sc_law_reached.nd rfl (.inr rfl) (pe_disp (pps_cons (pv 1) pe_int pps_nil) (by rfl) (by rfl) (fun z => by cases z) (by decide)))
 (pss_cons (ps_for PassesOwn.never rfl (pi_range2 (by rfl) T.b_range (pa_cons (pe_op (k_plus K) (pv 1) pe_int) (pa_cons (pe_op (k_plus K) (pe_callB (k_len K) (by rfl) T.b_len PySem.boot_len (pa_cons (pv 0) pa_nil)) pe_int) pa_nil))) (pg_name (i := 5) sc_law_reached.nd rfl (Or.inl rfl)) (pss_cons (ps_set (i := 6) sc_law_reached.nd rfl (.inl rfl) (pe_un un_neg pe_int))
 (pss_cons (ps_set (i := 7) sc_law_reached.nd rfl (.inl rfl) (pv 5))
 (pss_one (ps_while PassesOwn.never (PW.pt (pw_and (pt_cmpR op_gt (pv 7) (pv 1) (nomark _)) (pw_and1 (pt_cmpR op_le (pe_op (k_plus K) (pe_op (k_plus K) (pv 6) pe_int) (pe_callB (k_len K) (by rfl) T.b_len PySem.boot_len (pa_cons (pe_ix (k_ix K) (pv 0) (pe_op op_sub (pv 7) pe_int) (fun _ _ => rfl)) pa_nil))) (pv 2) (nomark _))))) (pss_cons (ps_set (i := 6) sc_law_reached.nd rfl (.inl rfl) (pe_op (k_plus K) (pe_op (k_plus K) (pv 6) pe_int) (pe_callB (k_len K) (by rfl) T.b_len PySem.boot_len (pa_cons (pe_ix (k_ix K) (pv 0) (pe_op op_sub (pv 7) pe_int) (fun _ _ => rfl)) pa_nil))))
 (pss_cons (ps_set (i := 7) sc_law_reached.nd rfl (.inl rfl) (pe_op op_sub (pv 7) pe_int))
 (pss_one (ps_if (PW.pt (pw_and (pt_cmp (pc_din (hu_of hr) (pv 7) (pv 4))) (pw_and1 (PW.pt (pw_or (pt_cmp (pc_dnotin (hu_of hr) (pv 5) (pv 4))) (pw_or1 (pt_cmpR op_lt (pe_op (k_plus K) (pe_dget (hu_of hr) (pv 4) (pv 7) (fun _ _ => rfl)) pe_int) (pe_dget (hu_of hr) (pv 4) (pv 5) (fun _ _ => rfl)) (nomark _)))))))) (pss_one (ps_dput (hu_of hr) (pv 4) (pv 5) (pe_op (k_plus K) (pe_dget (hu_of hr) (pv 4) (pv 7) (fun _ _ => rfl)) pe_int) rfl)) pss_nil)))))))))
 (pss_one (ps_ret (pe_lock (pe_lc (own := [("last", 5)]) (g := _) (tt := _) (by rfl) sc_law_reached.nd (pi_keys (pv 4)) (blkOk_by (N := N_law_reached) (sc := defScope s_law_reached) (by decide +kernel)) (fun _ _ _ _ _ => (pg_name (i := 5) sc_law_reached.nd rfl (Or.inl rfl))) (fun _ _ _ _ _ => (pts_one (pt_cmpR op_le (pe_dget (hu_of hr) (pv 4) (pv 5) (fun _ _ => rfl)) (pv 3) (nomark _)))) (fun _ _ _ _ _ => (pv 5)))))))), rd_of h fun B ls Po Pe hB hG hE => ?_⟩)
  obtain ⟨ws, f, w, h, rfl, ⟨hl, hw, hf, hh⟩, q⟩ := hG
  show WS B K _ [some (.d (.list (ws.map .str))), some (.d (.int f)), some (.d (.int w)), some (.d (.int h)), none, none, none, none] _
  let xs := ws.drop f
  have hxl : xs.length = ws.length - f := List.length_drop ..
  have hT := fitN_le w xs
  have hxi : ∀ i, xs[i]? = ws[f + i]? := fun i => List.getElem?_drop ..
  walk_at "sv"
  refine ⟨.inl f, rfl, ⟨_, rfl, ?_⟩⟩
  let T0 := fitN w xs
  walk_at "sv"
  refine ⟨fun pre ρ => ∃ o5 o6 o7, ρ = [some (.d (.list (ws.map .str))), some (.d (.int f)), some (.d (.int w)), some (.d (.int h)), some (.ownD (keysR f (min pre.length T0)) (valsR w xs (min pre.length T0))), o5, o6, o7], ⟨none, none, none, ?_⟩, fun pre a post ρ2 ha hI => ?_, fun ρ2 hI => ?_⟩
  · show _ = [_, _, _, _, some (L.ownD (keysR f (min 0 T0)) (valsR w xs (min 0 T0))), _, _, _]
    have k1 : keysR f 0 = [Sum.inl (f : Int)] := by
      unfold keysR
      show [(Sum.inl ((f : Int) + ((0 : Nat) : Int)) : Key)] = _
      rw [show (f : Int) + ((0 : Nat) : Int) = f by omega]
    rw [Nat.zero_min, k1]
    rfl
  · obtain ⟨o5, o6, o7, rfl⟩ := hI
    obtain ⟨ea, hpl⟩ := ixs_split ha
    walk_at "sv"
    have hN : pre.length + 1 ≤ xs.length := by omega
    have ea2 : a = (f : Int) + ((pre.length + 1 : Nat) : Int) := by omega
    have ht0 : tot ((xs.take (pre.length + 1)).drop (pre.length + 1)) = -1 := by
      rw [List.drop_eq_nil_of_le (by rw [List.length_take]; omega)]
      rfl
    have fin : ∀ t (p5 p6 p7 : Option L), t = min (pre.length + 1) T0 → ∃ o5 o6 o7, [some (L.d (.list (ws.map .str))), some (.d (.int f)), some (.d (.int w)), some (.d (.int h)), some (.ownD (keysR f t) (valsR w xs t)), p5, p6, p7] = [some (L.d (.list (ws.map .str))), some (.d (.int f)), some (.d (.int w)), some (.d (.int h)), some (.ownD (keysR f (min (pre ++ [a]).length T0)) (valsR w xs (min (pre ++ [a]).length T0))), o5, o6, o7] := fun t p5 p6 p7 e => by
      rw [List.length_append, show [a].length = 1 from rfl, ← e]
      exact ⟨_, _, _, rfl⟩
    show WS B K (tWhile _ _) _ _
    have wix : ∀ m : Nat, 0 < m → m ≤ xs.length → ∃ v : Str, atI (ws.map PyData.str) ((f : Int) + (m : Int) - 1) = some (.str v) ∧ v.length ≤ 12 ∧ xs[m - 1]? = some v ∧ ∀ n, m ≤ n → n ≤ xs.length → tot ((xs.take n).drop (m - 1)) = tot ((xs.take n).drop m) + 1 + v.length := fun m h0 hm => by
      have hi : m - 1 < xs.length := by omega
      have e1 := List.getElem?_eq_getElem hi
      have e2 := hxi (m - 1)
      rw [e1] at e2
      refine ⟨xs[m - 1], ?_, hw _ (List.mem_of_getElem? e2.symm), e1, fun n h1 h2 => ?_⟩
      · rw [show (f : Int) + (m : Int) - 1 = ((f + (m - 1) : Nat) : Int) by omega]
        exact atI_nat (by rw [List.getElem?_map, ← e2]; rfl)
      · have td := tot_drop xs (m := m - 1) (n := n) (by omega) h2
        rw [show m - 1 + 1 = m by omega] at td
        exact td
    have hdl : ∀ t, t ≤ T0 → (keysR f t).length < 1000000 := fun t ht => by
      rw [keysR_len]
      have : T0 ≤ xs.length := hT
      omega
    have hdl2 : ∀ t, t ≤ pre.length + 1 → (keysR f t).length < 1000000 := fun t ht => by
      rw [keysR_len]
      omega
    by_cases hnT : pre.length + 1 ≤ T0
    · rw [Nat.min_eq_left (show pre.length ≤ T0 by omega)]
      rw [Nat.min_eq_left hnT] at fin
      generalize hn : pre.length = n0 at *
      refine ws_while (fun m ρ => m ≤ n0 + 1 ∧ ∃ ks vs, ρ = [some (.d (.list (ws.map .str))), some (.d (.int f)), some (.d (.int w)), some (.d (.int h)), some (.ownD ks vs), some (.d (.int a)), some (.d (.int (tot ((xs.take (n0 + 1)).drop m)))), some (.d (.int ((f : Int) + (m : Int))))] ∧
        ((m = n0 + 1 ∧ ks = keysR f n0 ∧ vs = valsR w xs n0) ∨ (m ≤ n0 ∧ ∃ b : Int, ks = keysR f (n0 + 1) ∧ vs = valsR w xs n0 ++ [.int b] ∧ (gN w xs (n0 + 1) : Int) ≤ b ∧ ∀ g, m ≤ g → g ≤ n0 → b ≤ (gN w xs g : Int) + 1))) ⟨n0 + 1, Nat.le_refl _, _, _, ?_, .inl ⟨rfl, rfl, rfl⟩⟩ fun m ρ1 hW => ?_
      · rw [ht0, ea2]
        rfl
      obtain ⟨hm, ks, vs, rfl, hk⟩ := hW
      have inK : (m = n0 + 1 ∧ ks = keysR f n0 ∧ vs = valsR w xs n0) ∨ (m ≤ n0 ∧ ∃ b : Int, ks = keysR f (n0 + 1) ∧ vs = valsR w xs n0 ++ [.int b] ∧ (gN w xs (n0 + 1) : Int) ≤ b ∧ ∀ g, m ≤ g → g ≤ n0 → b ≤ (gN w xs g : Int) + 1) → 0 < m → (Sum.inl ((f : Int) + (m : Int) - 1) : Key) ∈ ks ∧ getK ks vs (Sum.inl ((f : Int) + (m : Int) - 1)) = some (.int (gN w xs (m - 1) : Int)) := fun hk h0 => by
        rw [show (f : Int) + (m : Int) - 1 = (f : Int) + ((m - 1 : Nat) : Int) by omega]
        rcases hk with ⟨rfl, rfl, rfl⟩ | ⟨h1, b, rfl, rfl, _⟩
        · exact ⟨keysR_mem.mpr ⟨by omega, by omega⟩, getR (by omega)⟩
        · exact ⟨keysR_mem.mpr ⟨by omega, by omega⟩, getR_app (by omega)⟩
      walk_at "sv"
      · obtain ⟨v, hv, hv12, hvx, hvt⟩ := wix m (by omega) (by omega)
        refine idx_list hv ⟨by show v.length ≤ 1000000; omega, ?_⟩
        walk_at "sv"
        · refine idx_list hv ⟨by show v.length ≤ 1000000; omega, ?_⟩
          have hle : tot ((xs.take (n0 + 1)).drop (m - 1)) ≤ w := by rw [hvt (n0 + 1) (by omega) hN]; omega
          have hgn := gN_le (w := w) (ws := xs) (f := m - 1) (n := n0 + 1) (by omega) hle
          obtain ⟨in1, in2⟩ := inK hk (by omega)
          have nx : ∀ ks' vs', (m - 1 ≤ n0 ∧ ∃ b : Int, ks' = keysR f (n0 + 1) ∧ vs' = valsR w xs n0 ++ [.int b] ∧ (gN w xs (n0 + 1) : Int) ≤ b ∧ ∀ g, m - 1 ≤ g → g ≤ n0 → b ≤ (gN w xs g : Int) + 1) → ∃ m', m' < m ∧ m' ≤ n0 + 1 ∧ ∃ ks vs, [some (L.d (.list (ws.map .str))), some (.d (.int f)), some (.d (.int w)), some (.d (.int h)), some (.ownD ks' vs'), some (.d (.int a)), some (.d (.int (tot ((xs.take (n0 + 1)).drop m) + 1 + v.length))), some (.d (.int ((f : Int) + (m : Int) - 1)))] = [some (L.d (.list (ws.map .str))), some (.d (.int f)), some (.d (.int w)), some (.d (.int h)), some (.ownD ks vs), some (.d (.int a)), some (.d (.int (tot ((xs.take (n0 + 1)).drop m')))), some (.d (.int ((f : Int) + (m' : Int))))] ∧
            ((m' = n0 + 1 ∧ ks = keysR f n0 ∧ vs = valsR w xs n0) ∨ (m' ≤ n0 ∧ ∃ b : Int, ks = keysR f (n0 + 1) ∧ vs = valsR w xs n0 ++ [.int b] ∧ (gN w xs (n0 + 1) : Int) ≤ b ∧ ∀ g, m' ≤ g → g ≤ n0 → b ≤ (gN w xs g : Int) + 1)) := fun ks' vs' hh => by
            refine ⟨m - 1, by omega, by omega, ks', vs', ?_, .inr hh⟩
            rw [hvt (n0 + 1) (by omega) hN, show (f : Int) + ((m - 1 : Nat) : Int) = (f : Int) + (m : Int) - 1 by omega]
          have done : m ≤ n0 → ∀ b : Int, ks = keysR f (n0 + 1) → vs = valsR w xs n0 ++ [.int b] → getK ks vs (Sum.inl a) = some (.int b) := fun _ b e1 e2 => by
            rw [e1, e2, ea2]
            exact getR_last
          walk_at "sv"
          · have hin2 := hc
            refine ⟨_, ks, vs, _, rfl, rfl, in2, ?_⟩
            rcases hk with ⟨rfl, rfl, rfl⟩ | ⟨hm1, b, rfl, rfl, hb1, hb2⟩
            · exact absurd (keysR_mem.mp hin2).2 (by omega)
            walk_at "sv"
            refine ⟨_, _, _, _, rfl, rfl, done hm1 b rfl rfl, ?_⟩
            walk_at "sv"
            · refine ⟨_, _, _, _, rfl, rfl, in2, ?_⟩
              walk_at "sv"
              refine ⟨hdl2 _ (Nat.le_refl _), ?_⟩
              have k := nx (keysR f (n0 + 1)) (valsR w xs n0 ++ [.int ((gN w xs (m - 1) : Int) + 1)]) ⟨by omega, _, rfl, rfl, by omega, fun g h1 h2 => by
                rcases (show g = m - 1 ∨ m ≤ g by omega) with e | e
                · rw [e]; omega
                · have := hb2 g e h2; omega⟩
              have e1 : putKs (keysR f (n0 + 1)) (Sum.inl a) = keysR f (n0 + 1) := if_pos hin2
              have e2 : putXs (keysR f (n0 + 1)) (valsR w xs n0 ++ [.int b]) (Sum.inl a) (.int ((gN w xs (m - 1) : Int) + 1)) = valsR w xs n0 ++ [.int ((gN w xs (m - 1) : Int) + 1)] := by
                unfold putXs
                rw [if_pos hin2, ea2]
                exact replR_last
              show ∃ m', _
              rw [e1, e2]
              exact k
            · exact nx _ _ ⟨by omega, b, rfl, rfl, hb1, fun g h1 h2 => by
                rcases (show g = m - 1 ∨ m ≤ g by omega) with e | e
                · rw [e]; omega
                · exact hb2 g e h2⟩
          · have hin2 := hc
            refine ⟨_, ks, vs, _, rfl, rfl, in2, ?_⟩
            walk_at "sv"
            rcases hk with ⟨rfl, rfl, rfl⟩ | ⟨hm1, b, rfl, rfl, hb1, hb2⟩
            · refine ⟨hdl2 _ (Nat.le_succ _), ?_⟩
              obtain ⟨e1, e2⟩ := put_new (x := PyData.int ((gN w xs (n0 + 1 - 1) : Int) + 1)) (xs := valsR w xs n0) hin2
              show ∃ m', _
              rw [e1, e2, show keysR f n0 ++ [Sum.inl a] = keysR f (n0 + 1) by rw [keysR_succ, ea2]]
              exact nx _ _ ⟨by omega, _, rfl, rfl, by omega, fun g h1 h2 => by
                have e : g = n0 + 1 - 1 := by omega
                rw [e]; omega⟩
            · exact absurd (keysR_mem.mpr ⟨by omega, by omega⟩) hin2
          · exact absurd in1 (by assumption)
        · have hno : ¬ tot ((xs.take (n0 + 1)).drop (m - 1)) ≤ w := by rw [hvt (n0 + 1) (by omega) hN]; omega
          rcases hk with ⟨rfl, rfl, rfl⟩ | ⟨hm1, b, rfl, rfl, hb1, hb2⟩
          · have := fitN_fit (w := w) (i := n0 + 1 - 1) (by omega) hvx
            have := hvt (n0 + 1) (by omega) hN
            rw [ht0] at this
            omega
          · obtain ⟨g, hg1, hg2, hg3⟩ := gN_atF (w := w) (xs := xs) (n := n0 + 1) hnT (by omega)
            have hgm : m ≤ g := by
              refine Nat.not_lt.mp fun hlt => ?_
              have := tot_mono xs (a := g) (b := m - 1) (n := n0 + 1) (by omega)
              omega
            have hb3 := hb2 g hgm (by omega)
            have hbe : b = (gN w xs (n0 + 1) : Int) := by omega
            rw [hbe, ← valsR_succ]
            exact fin (n0 + 1) _ _ _ rfl
      · have hm0 : m = 0 := by omega
        rcases hk with ⟨h1, _⟩ | ⟨hm1, b, rfl, rfl, hb1, hb2⟩
        · omega
        · obtain ⟨g, hg1, hg2, hg3⟩ := gN_atF (w := w) (xs := xs) (n := n0 + 1) hnT (by omega)
          have hb3 := hb2 g (by omega) (by omega)
          have hbe : b = (gN w xs (n0 + 1) : Int) := by omega
          rw [hbe, ← valsR_succ]
          exact fin (n0 + 1) _ _ _ rfl
    · have hT0 : T0 ≤ pre.length := by omega
      rw [Nat.min_eq_right hT0]
      rw [Nat.min_eq_right (show T0 ≤ pre.length + 1 by omega)] at fin
      generalize hn : pre.length = n0 at *
      refine ws_while (fun m ρ => m ≤ n0 + 1 ∧ T0 < m ∧ ρ = [some (.d (.list (ws.map .str))), some (.d (.int f)), some (.d (.int w)), some (.d (.int h)), some (.ownD (keysR f T0) (valsR w xs T0)), some (.d (.int a)), some (.d (.int (tot ((xs.take (n0 + 1)).drop m)))), some (.d (.int ((f : Int) + (m : Int))))]) ⟨n0 + 1, Nat.le_refl _, by omega, ?_⟩ fun m ρ1 hW => ?_
      · rw [ht0, ea2]
        rfl
      obtain ⟨hm, hmT, rfl⟩ := hW
      walk_at "sv"
      · obtain ⟨v, hv, hv12, hvx, hvt⟩ := wix m (by omega) (by omega)
        refine idx_list hv ⟨by show v.length ≤ 1000000; omega, ?_⟩
        walk_at "sv"
        · refine idx_list hv ⟨by show v.length ≤ 1000000; omega, ?_⟩
          have hle : tot ((xs.take (n0 + 1)).drop (m - 1)) ≤ w := by rw [hvt (n0 + 1) (by omega) hN]; omega
          have hmT2 : T0 < m - 1 := by
            refine Nat.not_le.mp fun hlt => ?_
            exact tot_wide (w := w) (xs := xs) (m := m - 1) (n := n0 + 1) hlt (show T0 < n0 + 1 by omega) hN hle
          have notin : ¬ (Sum.inl ((f : Int) + (m : Int) - 1) : Key) ∈ keysR f T0 := fun z => absurd (keysR_mem.mp z).2 (by omega)
          have nx : ∃ m', m' < m ∧ m' ≤ n0 + 1 ∧ T0 < m' ∧ [some (L.d (.list (ws.map .str))), some (.d (.int f)), some (.d (.int w)), some (.d (.int h)), some (.ownD (keysR f T0) (valsR w xs T0)), some (.d (.int a)), some (.d (.int (tot ((xs.take (n0 + 1)).drop m) + 1 + v.length))), some (.d (.int ((f : Int) + (m : Int) - 1)))] = [some (L.d (.list (ws.map .str))), some (.d (.int f)), some (.d (.int w)), some (.d (.int h)), some (.ownD (keysR f T0) (valsR w xs T0)), some (.d (.int a)), some (.d (.int (tot ((xs.take (n0 + 1)).drop m')))), some (.d (.int ((f : Int) + (m' : Int))))] := by
            refine ⟨m - 1, by omega, by omega, hmT2, ?_⟩
            rw [hvt (n0 + 1) (by omega) hN, show (f : Int) + ((m - 1 : Nat) : Int) = (f : Int) + (m : Int) - 1 by omega]
          walk_at "sv"
          · exact absurd (by assumption) notin
          · exact absurd (by assumption) notin
          · exact nx
        · exact fin T0 _ _ _ rfl
      · omega
  · obtain ⟨o5, o6, o7, rfl⟩ := hI
    have hmin : min (ixs ((f : Int) + 1) ((ws.length : Int) + 1 - ((f : Int) + 1)).toNat).length T0 = T0 := by
      rw [ixs_len]
      exact Nat.min_eq_right (by show T0 ≤ _; omega)
    rw [hmin]
    walk_at "sv"
    refine wd_e (we_lcKeys (fun k o => o = if (match getK (keysR f T0) (valsR w xs T0) k with | some (.int z) => decide (z ≤ h) | _ => false) = true then some (keyD k) else none) (.name 5) rfl (np_of hB (by decide)) (by rw [keysR_len]; show _ ≤ 1000000; omega) (fun d k hk B' hB' hD => ?_) fun ys hy => ?_)
    · obtain ⟨i, hi, rfl⟩ : ∃ i : Nat, i ≤ T0 ∧ k = (Sum.inl ((f : Int) + (i : Int)) : Key) := by
        obtain ⟨i, hi, e⟩ := List.mem_map.mp (show k ∈ (List.range (T0 + 1)).map fun (i : Nat) => (Sum.inl ((f : Int) + (i : Int)) : Key) from hk)
        exact ⟨i, by have := List.mem_range.mp hi; omega, e.symm⟩
      have hg := getR (w := w) (xs := xs) (f := f) hi
      refine wg_name (np_of hB' (by decide)) (wt_test (wd_lt (wd_dgetF hB' hD rfl (wd_var rfl ⟨_, _, rfl, hg, ⟨_, rfl, ?_⟩⟩))))
      dsimp only
      rw [hg]
      dsimp only
      walk_at "sv"
      · exact (if_pos (decide_eq_true hc)).symm
      · exact (if_neg (by rw [decide_eq_true_eq]; exact hc)).symm
    · have e := Sel.filter (f := keyD) (p := fun k : Key => match getK (keysR f T0) (valsR w xs T0) k with | some (.int z) => decide (z ≤ h) | _ => false) hy
      subst e
      have e2 : ((keysR f T0).filter fun k : Key => match getK (keysR f T0) (valsR w xs T0) k with | some (.int z) => decide (z ≤ h) | _ => false) = ((List.range (T0 + 1)).filter fun i => decide ((gN w xs i : Int) ≤ h)).map fun (i : Nat) => (Sum.inl ((f : Int) + (i : Int)) : Key) := by
        show (((List.range (T0 + 1)).map fun (i : Nat) => (Sum.inl ((f : Int) + (i : Int)) : Key)).filter _) = _
        rw [List.filter_map]
        congr 1
        refine List.filter_congr fun i hi => ?_
        have hg := getR (w := w) (xs := xs) (f := f) (t := T0) (i := i) (by have := List.mem_range.mp hi; omega)
        show (match getK (keysR f T0) (valsR w xs T0) (Sum.inl ((f : Int) + (i : Int))) with | some (.int z) => decide (z ≤ h) | _ => false) = _
        rw [hg]
      refine ⟨_, rfl, ?_⟩
      rw [e2, List.map_map]
      have k := q (((List.range (T0 + 1)).filter fun i => decide ((gN w xs i : Int) ≤ h)).map fun (i : Nat) => (f : Int) + (i : Int)) (fun z => ?_) ?_
      · rw [List.map_map] at k
        exact k
      · rw [List.mem_map]
        constructor
        · rintro ⟨i, hi, rfl⟩
          obtain ⟨h1, h2⟩ := List.mem_filter.mp hi
          exact ⟨i, (fill_gN hh).mpr ⟨show i ≤ T0 from Nat.le_of_lt_succ (List.mem_range.mp h1), of_decide_eq_true h2⟩, rfl⟩
        · rintro ⟨i, hi, rfl⟩
          obtain ⟨h1, h2⟩ := (fill_gN hh).mp hi
          exact ⟨i, List.mem_filter.mpr ⟨List.mem_range.mpr (show i < T0 + 1 from Nat.lt_succ_of_le h1), decide_eq_true h2⟩, rfl⟩
      · rw [List.length_map]
        refine Nat.le_trans (List.length_filter_le _ _) ?_
        rw [List.length_range]
        have : T0 ≤ xs.length := hT
        omega

/-! ### no later start reaches less far -/
theorem suf_lines {w : Int} (p : List Str) : ∀ qs : List Str, (linesW w qs).length < (linesW w (p ++ qs)).length ∨ ((linesW w qs).length = (linesW w (p ++ qs)).length ∧ lastL (linesW w qs) ≤ lastL (linesW w (p ++ qs))) := by
  intro qs
  induction qs using snoc_ind with
  | h0 =>
    rw [List.append_nil]
    rcases snoc_cases (linesW w p) with e | ⟨g, l, e⟩
    · rw [e]; exact .inr ⟨rfl, Int.le_refl _⟩
    · rw [e]; exact .inl (by show 0 < _; rw [List.length_append]; exact Nat.succ_pos _)
  | hs qs x ih =>
    rw [← List.append_assoc, linesW_snoc, linesW_snoc]
    have put : ∀ fs : List Str, (fs ≠ [] ∧ lastL fs + 1 + x.length ≤ w ∧ (putW w fs x).length = fs.length ∧ lastL (putW w fs x) = lastL fs + 1 + x.length) ∨ ((fs = [] ∨ ¬ lastL fs + 1 + x.length ≤ w) ∧ (putW w fs x).length = fs.length + 1 ∧ lastL (putW w fs x) = x.length) := fun fs => by
      rcases snoc_cases fs with rfl | ⟨g, l, rfl⟩
      · rw [putW_nil]; exact .inr ⟨.inl rfl, rfl, by rw [show [x] = [] ++ [x] from rfl, lastL_snoc]⟩
      · rw [lastL_snoc]
        by_cases c : (l.length : Int) + 1 + x.length ≤ w
        · rw [putW_in c, lastL_snoc, joined_len]
          exact .inl ⟨by simp, c, by rw [List.length_append, List.length_append]; rfl, rfl⟩
        · rw [putW_out c, lastL_snoc]
          exact .inr ⟨.inr c, by rw [List.length_append]; rfl, rfl⟩
    have ge : ∀ fs : List Str, -1 ≤ lastL fs := fun fs => by
      rcases snoc_cases fs with rfl | ⟨g, l, rfl⟩
      · exact Int.le_refl _
      · rw [lastL_snoc]; omega
    have h1 := put (linesW w qs)
    have h2 := put (linesW w (p ++ qs))
    have g2 := ge (linesW w (p ++ qs))
    generalize linesW w qs = b at *
    generalize linesW w (p ++ qs) = a at *
    rcases h1 with ⟨b0, b1, b2, b3⟩ | ⟨b1, b2, b3⟩ <;> rcases h2 with ⟨a0, a1, a2, a3⟩ | ⟨a1, a2, a3⟩ <;> rcases ih with ih | ⟨i1, i2⟩
    · left; omega
    · right; omega
    · left; omega
    · left; omega
    · by_cases c : b.length + 1 < a.length
      · left; omega
      · right; omega
    · rcases b1 with e | e
      · subst e
        exact absurd (List.eq_nil_of_length_eq_zero i1.symm) a0
      · omega
    · left; omega
    · right; omega
theorem gN_suf {w : Int} {xs : List Str} {d n : Nat} (h : d ≤ n) : gN w (xs.drop d) (n - d) ≤ gN w xs n := by
  unfold gN
  have e : xs.take n = xs.take d ++ (xs.drop d).take (n - d) := by
    rw [← List.take_add, show d + (n - d) = n by omega]
  rw [e]
  rcases suf_lines (w := w) (xs.take d) ((xs.drop d).take (n - d)) with k | k <;> omega
theorem fitN_drop {w : Int} : ∀ {xs : List Str} {d n : Nat}, d ≤ n → n ≤ fitN w xs → n - d ≤ fitN w (xs.drop d)
  | xs, 0, n, _, h => h
  | [], d + 1, n, h1, h2 => by
    have : n ≤ 0 := h2
    omega
  | x :: xs, d + 1, 0, h1, _ => by omega
  | x :: xs, d + 1, n + 1, h1, h2 => by
    rw [fitN_cons] at h2
    by_cases c : (x.length : Int) ≤ w
    · rw [if_pos c] at h2
      have k := fitN_drop (w := w) (xs := xs) (d := d) (n := n) (by omega) (by omega)
      rw [show n + 1 - (d + 1) = n - d by omega]
      exact k
    · rw [if_neg c] at h2; omega
theorem reach_mono {w h : Int} {ws : List Str} {f g : Nat} (hh : 0 ≤ h) (hfg : f ≤ g) : f + fillN w h [] (ws.drop f) ≤ g + fillN w h [] (ws.drop g) := by
  by_cases c : f + fillN w h [] (ws.drop f) ≤ g
  · omega
  · obtain ⟨h1, h2⟩ := (fill_gN (w := w) (h := h) (xs := ws.drop f) (n := fillN w h [] (ws.drop f)) hh).mp (Nat.le_refl _)
    have e : (ws.drop f).drop (g - f) = ws.drop g := by rw [List.drop_drop, show f + (g - f) = g by omega]
    have k : fillN w h [] (ws.drop f) - (g - f) ≤ fillN w h [] (ws.drop g) := by
      refine (fill_gN hh).mpr ⟨?_, ?_⟩
      · rw [← e]
        exact fitN_drop (by omega) h1
      · have s := gN_suf (w := w) (xs := ws.drop f) (d := g - f) (n := fillN w h [] (ws.drop f)) (by omega)
        rw [e] at s
        omega
    omega
/-! the rooms' lines -/
theorem pourS_at {ws : List Str} {pre : List (Int × Int)} {r : Int × Int} : ∀ post : List (Int × Int), (pourS ws (pre ++ r :: post)).1[pre.length]? = some (roomF r.1 r.2 (ws.drop (pourS ws pre).2)) := by
  intro post
  induction post using snoc_ind with
  | h0 =>
    rw [pourS_snoc]
    show ((pourS ws pre).1 ++ [roomF r.1 r.2 (ws.drop (pourS ws pre).2)])[pre.length]? = _
    rw [List.getElem?_append_right (by rw [pourS_len]; exact Nat.le_refl _), pourS_len, Nat.sub_self]
    rfl
  | hs post y ih =>
    rw [show pre ++ r :: (post ++ [y]) = (pre ++ r :: post) ++ [y] by simp, pourS_snoc]
    show ((pourS ws (pre ++ r :: post)).1 ++ _)[pre.length]? = _
    rw [List.getElem?_append_left (by rw [pourS_len, List.length_append, List.length_cons]; omega)]
    exact ih
theorem pourS_next {ws : List Str} {pre : List (Int × Int)} {r : Int × Int} : (pourS ws (pre ++ [r])).2 = (pourS ws pre).2 + fillN r.1 r.2 [] (ws.drop (pourS ws pre).2) := by
  rw [pourS_snoc]
  rfl
theorem roomF_ok {w h : Int} {xs : List Str} (hh : 0 ≤ h) : ((roomF w h xs).length : Int) ≤ h ∧ ∀ l, l ∈ roomF w h xs → (l.length : Int) ≤ w := by
  obtain ⟨h1, h2⟩ := (fill_gN (w := w) (h := h) (xs := xs) (n := fillN w h [] xs) hh).mp (Nat.le_refl _)
  refine ⟨h2, lines_fit fun v hv => ?_⟩
  obtain ⟨i, hi, e⟩ := List.getElem_of_mem hv
  rw [List.length_take] at hi
  rw [List.getElem_take] at e
  exact fitN_fit (xs := xs) (i := i) (by omega) (by rw [List.getElem?_eq_getElem (by omega), e])
open TL (tl split_join kind_ok) in
theorem roomF_words {w h : Int} {xs : List Str} (hw : ∀ v, v ∈ xs → IsWord v) (hne : roomF w h xs ≠ []) : (Txt.split (Txt.join spS (roomF w h xs)) spS).length = fillN w h [] xs := by
  have hl := fillN_le (w := w) (h := h) xs []
  unfold roomF at hne ⊢
  rw [txt_join_lines]
  have hparts : xs.take (fillN w h [] xs) ≠ [] := fun z => hne (by rw [z]; rfl)
  have e := split_join (y := spS) (s := 32) (S := []) (by decide +kernel) (by decide +kernel) (parts := xs.take (fillN w h [] xs)) hparts fun p hp => by
    have hpw := hw p (List.mem_of_mem_take hp)
    intro z
    have k := hpw.2.2 32 z
    revert k
    decide +kernel
  rw [e, List.length_take]
  omega
theorem roomF_nil {w h : Int} {xs : List Str} (he : roomF w h xs = []) : fillN w h [] xs = 0 := by
  have hl := fillN_le (w := w) (h := h) xs []
  refine Classical.byContradiction fun c => ?_
  unfold roomF at he
  refine linesW_ne (w := w) (ws := xs.take (fillN w h [] xs)) (fun z => ?_) he
  have := congrArg List.length z
  rw [List.length_take] at this
  simp only [List.length_nil] at this
  omega
/-! unlike numbers from 0 on -/
theorem nodup_len : ∀ {n : Nat} {ns : List Int}, ns.Nodup → (∀ z, z ∈ ns → 0 ≤ z ∧ z < n) → ns.length ≤ n
  | 0, [], _, _ => Nat.le_refl _
  | 0, z :: ns, _, h => by have := h z List.mem_cons_self; omega
  | n + 1, ns, hd, h => by
    have k := nodup_len (n := n) (ns := ns.erase (n : Int)) (hd.erase _) fun z hz => by
      have k1 := h z (List.mem_of_mem_erase hz)
      have k2 : z ≠ (n : Int) := fun e => by
        rw [e, hd.mem_erase_iff] at hz
        exact hz.1 rfl
      omega
    rw [List.length_erase] at k
    split at k <;> omega
theorem last_max {ns : List Int} {m : Int} (hs : ns.Pairwise (· ≤ ·)) (hm : m ∈ ns) (hx : ∀ z, z ∈ ns → z ≤ m) : ∃ g, ns = g ++ [m] := by
  rcases snoc_cases ns with rfl | ⟨g, x, rfl⟩
  · cases hm
  · have h1 := hx x (by simp)
    have h2 : m ≤ x := by
      rcases List.mem_append.mp hm with k | k
      · exact (List.pairwise_append.mp hs).2.2 m k x (by simp)
      · rw [List.mem_singleton.mp k]; exact Int.le_refl _
    exact ⟨g, by rw [Int.le_antisymm h1 h2]⟩

/-! ### how long a joined text is -/
open TL (joinL tl tl_join join_eq)
theorem txt_snoc {seg : List Str} {x : Str} (h : seg ≠ []) : Txt.join spS (seg ++ [x]) = Txt.join spS seg ++ spS ++ x := by
  have e : tl (Txt.join spS (seg ++ [x])) = tl (Txt.join spS seg ++ spS ++ x) := by
    rw [show tl (Txt.join spS seg ++ spS ++ x) = tl (Txt.join spS seg) ++ tl spS ++ tl x by unfold tl; rw [app_list, app_list]]
    rw [join_eq, join_eq, tl_join, tl_join, List.map_append]
    exact joinL_snoc fun z => h (List.map_eq_nil_iff.mp z)
  cases h1 : Txt.join spS (seg ++ [x]) with
  | mk a =>
    cases h2 : Txt.join spS seg ++ spS ++ x with
    | mk b =>
      rw [h1, h2] at e
      exact congrArg Str.mk (Array.toList_inj.mp e)
theorem txt_one (x : Str) : Txt.join spS [x] = x := by
  have e : tl (Txt.join spS [x]) = tl x := by
    rw [join_eq, tl_join]
    rfl
  cases h1 : Txt.join spS [x] with
  | mk a =>
    cases h2 : x with
    | mk b =>
      rw [h1, h2] at e
      exact congrArg Str.mk (Array.toList_inj.mp e)
theorem join_len_le {n : Nat} : ∀ seg : List Str, (∀ v, v ∈ seg → v.length ≤ n) → (Txt.join spS seg).length ≤ (n + 1) * seg.length := by
  intro seg
  induction seg using snoc_ind with
  | h0 => intro _; exact (by decide +kernel : (Txt.join spS []).length ≤ 0)
  | hs seg x ih =>
    intro h
    have hx := h x (by simp)
    have k := ih fun v hv => h v (List.mem_append_left _ hv)
    rw [List.length_append, show [x].length = 1 from rfl, Nat.mul_add, Nat.mul_one]
    by_cases hs : seg = []
    · subst hs
      rw [List.nil_append, txt_one]
      omega
    · rw [txt_snoc hs, app_len, app_len, spS_len]
      omega

/-! ### the law -/
theorem roomF_strOk {w h : Int} {xs : List Str} (hx : ∀ v, v ∈ xs → IsWord v) : ∀ l, l ∈ roomF w h xs → PyData.strOk l = true := fun l hl => (lines_ok (w := w) (ws := xs.take (fillN w h [] xs)) (fun v hv => hx v (List.mem_of_mem_take hv)) l hl).ok
theorem Sel.none {α : Type} {as : List α} {ys : List PyData} (s : Sel (fun _ o => o = none) as ys) : ys = [] := by
  induction s with
  | nil => rfl
  | yes _ h _ => cases h
  | no _ _ ih => exact ih
theorem putKs_ints (kz : List Int) (z : Int) : putKs (kz.map Sum.inl) (Sum.inl z) = (if z ∈ kz then kz else kz ++ [z]).map Sum.inl := by
  unfold putKs
  by_cases c : z ∈ kz
  · rw [if_pos c, if_pos (List.mem_map.mpr ⟨z, c, rfl⟩)]
  · rw [if_neg c, if_neg fun k => by
      obtain ⟨u, hu, e⟩ := List.mem_map.mp k
      injection e with e
      exact c (e ▸ hu)]
    rw [List.map_append]
    rfl
theorem putKs_nodup {kz : List Int} {z : Int} (h : kz.Nodup) : (if z ∈ kz then kz else kz ++ [z]).Nodup := by
  by_cases c : z ∈ kz
  · rw [if_pos c]; exact h
  · rw [if_neg c]
    refine List.nodup_append.mpr ⟨h, List.nodup_cons.mpr ⟨(fun k => nomatch k), List.nodup_nil⟩, fun a ha b hb e => ?_⟩
    rw [List.mem_singleton.mp hb] at e
    exact c (e ▸ ha)
theorem putKs_mem {kz : List Int} {z u : Int} : u ∈ (if z ∈ kz then kz else kz ++ [z]) ↔ u ∈ kz ∨ u = z := by
  by_cases c : z ∈ kz
  · rw [if_pos c]
    exact ⟨.inl, fun k => k.elim id fun e => e ▸ c⟩
  · rw [if_neg c]
    simp
theorem ok_law (T : Txt K mg) : FnOk P w K mg base CX0 4 T.f_law T.fd_law ["script"] (SpG K none G_law) := by
  refine T.d_law.F.ok sc_law (SpG.len (n := 1) fun ls Po Pe h => by obtain ⟨_, rfl, _⟩ := h; rfl) (fun cdv A outer s H vs Q E hr h => ⟨_, (pss_cons (ps_set (i := 1) sc_law.nd rfl (.inr rfl) (pe_op op_modN (pe_call (ok_law_cell_at T) (hr.mono (by decide)) (by rfl) T.d_law_cell_at.g T.d_law_cell_at.kp T.d_law_cell_at.b .nil pass0 (pa_cons (pv 0) (pa_cons pe_int pa_nil))) pe_int))
 (pss_cons (ps_setLc (i := 2) (own := [("k", 3)]) (g := _) (tt := _) rfl sc_law.nd rfl rfl (sw_true rfl rfl rfl (by decide +kernel)) (pi_range1 (by rfl) T.b_range (pa_cons (pe_callB (call_min2 rfl) (by rfl) T.b_min (by decide +kernel) (pa_cons pe_int (pa_cons (pe_callB (call_max2 rfl) (by rfl) T.b_max (by decide +kernel) (pa_cons pe_int (pa_cons (pe_op op_sub (pe_callB (k_len K) (by rfl) T.b_len PySem.boot_len (pa_cons (pv 0) pa_nil)) pe_int) pa_nil))) pa_nil))) pa_nil)) (blkOk_by (N := N_law) (sc := defScope s_law) (by decide +kernel)) (fun _ _ _ _ _ => (pg_name (i := 3) sc_law.nd rfl (Or.inl rfl))) (fun _ _ _ _ _ => pts_nil) (fun _ _ _ _ _ => (pe_callB (k_sum K rfl rfl) (by rfl) T.b_sum (by decide +kernel) (pa_cons (k_slice3 K rfl (pv 0) (po_some (pe_op (k_plus K) pe_int (pv 3))) (po_some pe_int) (po_some pe_int)) pa_nil))))
 (pss_cons (ps_setLc (i := 4) (own := [("cell", 5)]) (g := _) (tt := _) rfl sc_law.nd rfl rfl (sw_true rfl rfl rfl (by decide +kernel)) (k_piL K rfl (pv 2)) (blkOk_by (N := N_law) (sc := defScope s_law) (by decide +kernel)) (fun _ _ _ _ _ => (pg_name (i := 5) sc_law.nd rfl (Or.inl rfl))) (fun _ _ _ _ _ => pts_nil) (fun _ _ _ _ _ => (pe_call (ok_law_word T) (hr.mono (by decide)) (by rfl) T.d_law_word.g T.d_law_word.kp T.d_law_word.b .nil pass0 (pa_cons (pv 5) (pa_cons (pv 1) pa_nil)))))
 (pss_cons (ps_set (i := 6) sc_law.nd rfl (.inl rfl) (pe_call (ok_law_rooms T) (hr.mono (by decide)) (by rfl) T.d_law_rooms.g T.d_law_rooms.kp T.d_law_rooms.b .nil pass0 (pa_cons (pv 0) pa_nil)))
 (pss_cons (ps_set (i := 7) sc_law.nd rfl (.inl rfl) (pe_call (ok_poured T) hr (by rfl) T.d_poured.g T.d_poured.kp T.d_poured.b .nil passL (pa_cons (pe_callTy (k_listOf K) (by rfl) T.b_list (by decide +kernel) (pa_cons (pv 4) pa_nil)) (pa_cons (pe_callTy (k_listOf K) (by rfl) T.b_list (by decide +kernel) (pa_cons (pv 6) pa_nil)) pa_nil))))
 (pss_cons (ps_if (pt_cmpR (k_neD K rfl hr.units) (pe_callB (k_len K) (by rfl) T.b_len PySem.boot_len (pa_cons (pe_ix (k_ix K) (pv 7) pe_int (fun _ _ => rfl)) pa_nil)) (pe_callB (k_len K) (by rfl) T.b_len PySem.boot_len (pa_cons (pv 6) pa_nil)) (nomark _)) (pss_one (ps_ret pe_bl)) pss_nil)
 (pss_cons (ps_set (i := 8) sc_law.nd rfl (.inl rfl) (pe_lst (pa_cons pe_int pa_nil)))
 (pss_cons (ps_set (i := 9) sc_law.nd rfl (.inl rfl) pe_int)
 (pss_cons (ps_for PassesOwn.never rfl (pi_range1 (by rfl) T.b_range (pa_cons (pe_callB (k_len K) (by rfl) T.b_len PySem.boot_len (pa_cons (pv 6) pa_nil)) pa_nil)) (pg_name (i := 3) sc_law.nd rfl (Or.inl rfl)) (pss_cons (ps_asg (pe_ix (k_ix K) (pv 6) (pv 3) (fun _ _ => rfl)) (k_gTup K rfl rfl (pgs_cons (pg_name (i := 10) sc_law.nd rfl (Or.inr rfl)) (pgs_cons (pg_name (i := 11) sc_law.nd rfl (Or.inl rfl)) pgs_nil))))
 (pss_cons (ps_setO (i := 12) sc_law.nd rfl (.inl rfl) pe_dnewK)
 (pss_cons (ps_for PassesOwn.never rfl (k_piL K rfl (pv 8)) (pg_name (i := 13) sc_law.nd rfl (Or.inl rfl)) (pss_one (ps_for PassesOwn.never rfl (k_piL K rfl (pe_call (ok_law_reached T) (hr.mono (by decide)) (by rfl) T.d_law_reached.g T.d_law_reached.kp T.d_law_reached.b .nil pass0 (pa_cons (pv 4) (pa_cons (pv 13) (pa_cons (pv 10) (pa_cons (pv 11) pa_nil)))))) (pg_name (i := 14) sc_law.nd rfl (Or.inl rfl)) (pss_one (ps_dput (hu_of hr) (pv 12) (pv 14) pe_bl rfl)))))
 (pss_cons (ps_set (i := 8) sc_law.nd rfl (.inl rfl) (pe_callB (k_sortDI rfl) (by rfl) T.b_sorted (by decide +kernel) (pa_cons (pv 12) pa_nil)))
 (pss_cons (ps_if (PW.pt (pw_or (pt_cmpR op_gt (pe_callB (k_len K) (by rfl) T.b_len PySem.boot_len (pa_cons (pe_ix (k_ix K) (pe_ix (k_ix K) (pv 7) pe_int (fun _ _ => rfl)) (pv 3) (fun _ _ => rfl)) pa_nil)) (pv 11) (nomark _)) (pw_or1 (pt_cmpR (k_neD K rfl hr.units) (pe_lc (own := [("one", 15)]) (g := _) (tt := _) (by rfl) sc_law.nd (k_piL K rfl (pe_ix (k_ix K) (pe_ix (k_ix K) (pv 7) pe_int (fun _ _ => rfl)) (pv 3) (fun _ _ => rfl))) (blkOk_by (N := N_law) (sc := defScope s_law) (by decide +kernel)) (fun _ _ _ _ _ => (pg_name (i := 15) sc_law.nd rfl (Or.inl rfl))) (fun _ _ _ _ _ => (pts_one (pt_cmpR op_gt (pe_callB (k_len K) (by rfl) T.b_len PySem.boot_len (pa_cons (pv 15) pa_nil)) (pv 10) (nomark _)))) (fun _ _ _ _ _ => (pv 15))) (pe_lst pa_nil) (nomark _))))) (pss_one (ps_ret pe_bl)) pss_nil)
 (pss_cons (ps_set (i := 9) sc_law.nd rfl (.inl rfl) (pe_op (k_plus K) (pv 9) (pe_op op_mul (pe_callB (k_len K) (by rfl) T.b_len PySem.boot_len (pa_cons (pe_split (k_join K rfl pe_str (pe_ix (k_ix K) (pe_ix (k_ix K) (pv 7) pe_int (fun _ _ => rfl)) (pv 3) (fun _ _ => rfl))) pe_str) pa_nil)) (pe_callTy call_int1 (by rfl) T.b_int (by decide +kernel) (pa_cons (pe_cmpR (k_neD K rfl hr.units) (pe_ix (k_ix K) (pe_ix (k_ix K) (pv 7) pe_int (fun _ _ => rfl)) (pv 3) (fun _ _ => rfl)) (pe_lst pa_nil) (nomark _)) pa_nil)))))
 (pss_one (ps_if (pt_cmpR (k_neD K rfl hr.units) (pv 9) (pe_ix (k_ix K) (pv 8) (pe_un un_neg pe_int) (fun _ _ => rfl)) (nomark _)) (pss_one (ps_ret pe_bl)) pss_nil)))))))))
 (pss_one (ps_ret (pe_cmpR (k_eqD K rfl hr.units) (pe_ix (k_ix K) (pv 7) pe_int (fun _ _ => rfl)) (pe_slice (k_sl K) (pv 4) (po_some (pv 9)) po_none) (nomark _))))))))))))), rd_of h fun B ls Po Pe hB hG hE => ?_⟩)
  obtain ⟨ns, rfl, hn, q⟩ := hG
  show WS B K _ [some (.scr ns), none, none, none, none, none, none, none, none, none, none, none, none, none, none, none] _
  walk_at "sn"
  refine ⟨ns, 0, rfl, by omega, fun z => ?_⟩
  walk_at "sn"
  refine wd_e (we_lc1 (fun (_ : Int) o => ∃ c : Int, True ∧ o = some (.int c)) (.name 3) ?_)
  walk_at "sn"
  refine ⟨fun k hk B' hB' => ?_, fun ys hy => ?_⟩
  · obtain ⟨k0, k1⟩ := ixs_mem hk
    walk_at "sn"
    refine wd_sum ?_
    walk_at "sn"
    exact ⟨by decide, fun ms hms => ⟨_, rfl, ms, rfl, _, trivial, rfl⟩⟩
  obtain ⟨cs, rfl, _, hcl⟩ := Sel.pick hy
  rw [ixs_len] at hcl
  have hc24 : cs.length ≤ 24 := by
    rw [hcl]
    split <;> omega
  clear hcl hy
  walk_at "sn"
  refine wd_e (we_lcL PyData.int (fun (_ : Int) o => ∃ x : Str, IsWord x ∧ o = some (.str x)) (.name 5) ?_)
  walk_at "sn"
  refine ⟨fun a ha B' hB' => ?_, fun ys hy => ?_⟩
  · walk_at "sn"
    exact ⟨_, _, rfl, fun x hx => ⟨_, rfl, x, hx, rfl⟩⟩
  obtain ⟨ws, rfl, hw, hwl⟩ := Sel.pick hy
  walk_at "sn"
  refine ⟨ns, rfl, fun rs r1 r8 hrs => ?_⟩
  have hgr : ∀ r, r ∈ rs → 1 ≤ r.1 ∧ 1 ≤ r.2 := fun r hr => ⟨(hrs r hr).1, (hrs r hr).2.2.1⟩
  walk_at "sn"
  refine ⟨_, _, rfl, shorts_of hw, .inr (.inr ⟨ws, rs, rfl, rfl, hw, by omega, hgr, by omega, fun t ht => ⟨_, toL_of (toD_deep (poured_data ht).1), ?_⟩⟩)⟩
  rw [(poured_data ht).2]
  clear ht
  have hpl := pourS_len ws rs
  walk_at "sv"
  rotate_left
  · rename_i hc
    exact absurd (by rw [hpl]) hc
  refine ⟨fun pre ρ => ∃ (wys : List Int) (o3 o10 o11 o12 o13 o14 : Option L), ρ = [some (.scr ns), some (.d (.int (z % 2))), some (.d (.list (cs.map .int))), o3, some (.d (.list (ws.map .str))), none, some (.d (.list (rs.map roomD))), some (.d (.tuple [.list ((pourS ws rs).1.map fun f => .list (f.map .str)), .list ((ws.drop (pourS ws rs).2).map .str)])), some (.d (.list (wys.map .int))), some (.d (.int ((pourS ws (rs.take pre.length)).2 : Nat))), o10, o11, o12, o13, o14, none] ∧
    (∀ v, v ∈ wys → 0 ≤ v ∧ v ≤ ((pourS ws (rs.take pre.length)).2 : Int)) ∧ ((pourS ws (rs.take pre.length)).2 : Int) ∈ wys, ⟨[0], none, none, none, none, none, none, rfl, fun v hv => ?_, ?_⟩, fun pre a post ρ2 ha hI => ?_, fun ρ2 hI => ?_⟩
  · rw [List.mem_singleton.mp hv]; exact ⟨Int.le_refl _, Int.le_refl _⟩
  · exact List.mem_singleton.mpr rfl
  · obtain ⟨wys, o3, o10, o11, o12, o13, o14, rfl, hwy, hpk⟩ := hI
    obtain ⟨ea, hkl⟩ := ixs_split ha
    have hkl2 : pre.length < rs.length := by omega
    obtain ⟨r, hr0⟩ : ∃ r, rs[pre.length]? = some r := ⟨_, List.getElem?_eq_getElem hkl2⟩
    have er : rs = rs.take pre.length ++ r :: rs.drop (pre.length + 1) := by
      have e1 := List.getElem?_eq_getElem hkl2
      rw [hr0] at e1
      injection e1 with e1
      rw [e1, ← List.drop_eq_getElem_cons hkl2, List.take_append_drop]
    have hgd := hgr r (List.mem_of_getElem? hr0)
    have hpa : (pourS ws rs).1[pre.length]? = some (roomF r.1 r.2 (ws.drop (pourS ws (rs.take pre.length)).2)) := by
      have k := pourS_at (ws := ws) (pre := rs.take pre.length) (r := r) (rs.drop (pre.length + 1))
      rw [← er, List.length_take, Nat.min_eq_left (by omega)] at k
      exact k
    have hpn : (pourS ws (rs.take (pre ++ [a]).length)).2 = (pourS ws (rs.take pre.length)).2 + fillN r.1 r.2 [] (ws.drop (pourS ws (rs.take pre.length)).2) := by
      rw [List.length_append, show [a].length = 1 from rfl, List.take_succ, hr0]
      exact pourS_next
    generalize hpk0 : (pourS ws (rs.take pre.length)).2 = pk at *
    have hpkl : pk ≤ ws.length := by
      rw [← hpk0]; exact pourS_le ..
    have e0 : a = (pre.length : Int) := by omega
    walk_at "sn"
    refine idx_list (show atI (rs.map roomD) a = some (.tuple [.int r.1, .int r.2]) by rw [e0]; exact atI_nat (by rw [List.getElem?_map, hr0]; rfl)) ?_
    walk_at "sn"
    let fN := fillN r.1 r.2 [] (ws.drop pk)
    have hfN : pk + fN ≤ ws.length := by
      have := fillN_le (w := r.1) (h := r.2) (ws.drop pk) []
      rw [List.length_drop] at this
      show pk + fillN r.1 r.2 [] (ws.drop pk) ≤ _
      omega
    have hkzl : ∀ kz : List Int, kz.Nodup → (∀ z, z ∈ kz → 0 ≤ z ∧ z ≤ (pk + fN : Nat)) → kz.length ≤ 25 := fun kz h1 h2 => nodup_len h1 fun z hz => ⟨(h2 z hz).1, by have := (h2 z hz).2; omega⟩
    refine ws_forL PyData.int (wd_var (x := .list (wys.map .int)) rfl ⟨wys, rfl, ?_⟩)
    refine ⟨fun pre2 ρ => ∃ (kz : List Int) (xs : List PyData) (o13 o14 : Option L), ρ = [some (.scr ns), some (.d (.int (z % 2))), some (.d (.list (cs.map .int))), some (.d (.int a)), some (.d (.list (ws.map .str))), none, some (.d (.list (rs.map roomD))), some (.d (.tuple [.list ((pourS ws rs).1.map fun f => .list (f.map .str)), .list ((ws.drop (pourS ws rs).2).map .str)])), some (.d (.list (wys.map .int))), some (.d (.int (pk : Nat))), some (.d (.int r.1)), some (.d (.int r.2)), some (.ownD (kz.map Sum.inl) xs), o13, o14, none] ∧
      kz.Nodup ∧ (∀ z, z ∈ kz → 0 ≤ z ∧ z ≤ (pk + fN : Nat)) ∧ ((pk : Int) ∈ pre2 → ((pk + fN : Nat) : Int) ∈ kz), ⟨[], [], _, _, rfl, List.nodup_nil, (fun z h => nomatch h), (fun h => nomatch h)⟩, fun pre2 a2 post2 ρ3 ha2 hI2 => ?_, fun ρ3 hI2 => ?_⟩
    · obtain ⟨kz, xs, o13', o14', rfl, hnd, hbd, hin⟩ := hI2
      have hm2 : a2 ∈ wys := by rw [ha2]; simp
      have hw2 := hwy a2 hm2
      obtain ⟨g, hg⟩ : ∃ g : Nat, a2 = g := ⟨a2.toNat, by omega⟩
      subst hg
      walk_at "sn"
      refine ws_forL PyData.int ?_
      walk_at "sn"
      refine ⟨ws, g, r.1, r.2, rfl, ⟨by omega, fun v hv => (hw v hv).2.1, by omega, by omega⟩, fun zs hz hzl => ⟨_, rfl, zs, rfl, ?_⟩⟩
      refine ⟨fun pre3 ρ => ∃ (kz3 : List Int) (xs : List PyData) (o14 : Option L), ρ = [some (.scr ns), some (.d (.int (z % 2))), some (.d (.list (cs.map .int))), some (.d (.int a)), some (.d (.list (ws.map .str))), none, some (.d (.list (rs.map roomD))), some (.d (.tuple [.list ((pourS ws rs).1.map fun f => .list (f.map .str)), .list ((ws.drop (pourS ws rs).2).map .str)])), some (.d (.list (wys.map .int))), some (.d (.int (pk : Nat))), some (.d (.int r.1)), some (.d (.int r.2)), some (.ownD (kz3.map Sum.inl) xs), some (.d (.int g)), o14, none] ∧
        kz3.Nodup ∧ (∀ z, z ∈ kz3 → 0 ≤ z ∧ z ≤ (pk + fN : Nat)) ∧ (∀ u, u ∈ kz → u ∈ kz3) ∧ (∀ u, u ∈ pre3 → u ∈ kz3), ⟨kz, xs, _, rfl, hnd, hbd, (fun u h => h), (fun u h => nomatch h)⟩, fun pre3 a3 post3 ρ4 ha3 hI3 => ?_, fun ρ4 hI3 => ?_⟩
      · obtain ⟨kz3, xs3, o14'', rfl, hnd3, hbd3, hs3, hp3⟩ := hI3
        have hk25 := hkzl kz3 hnd3 hbd3
        have hlim : (kz3.map Sum.inl : List Key).length < lim := by
          rw [List.length_map]
          show kz3.length < 1000000
          omega
        obtain ⟨i, hi, ei⟩ := (hz a3).mp (by rw [ha3]; simp)
        have hmono := reach_mono (w := r.1) (h := r.2) (ws := ws) (f := g) (g := pk) (by omega) (by omega)
        have hfe : fN = fillN r.1 r.2 [] (ws.drop pk) := rfl
        walk_at "sn"
        rw [putKs_ints]
        refine ⟨_, _, _, rfl, putKs_nodup hnd3, fun u hu => ?_, fun u hu => putKs_mem.mpr (.inl (hs3 u hu)), fun u hu => putKs_mem.mpr ?_⟩
        · rcases putKs_mem.mp hu with k | rfl
          · exact hbd3 u k
          · omega
        · rcases List.mem_append.mp hu with k | k
          · exact .inl (hp3 u k)
          · exact .inr (List.mem_singleton.mp k)
      · obtain ⟨kz3, xs3, o14'', rfl, hnd3, hbd3, hs3, hp3⟩ := hI3
        refine ⟨kz3, xs3, _, _, rfl, hnd3, hbd3, fun hm => ?_⟩
        rcases List.mem_append.mp hm with k | k
        · exact hs3 _ (hin k)
        · have eg : (pk : Int) = g := List.mem_singleton.mp k
          have eg2 : g = pk := by omega
          refine hp3 _ ((hz _).mpr ⟨fN, by rw [eg2]; exact Nat.le_refl _, ?_⟩)
          rw [eg2]
          omega
    · obtain ⟨kz, xs, o13', o14', rfl, hnd, hbd, hin⟩ := hI2
      have hmx := hin hpk
      have hk25 := hkzl kz hnd hbd
      walk_at "sn"
      refine wd_e (we_sortDI rfl (by omega) fun ns' hp hs => ?_)
      have hmx' := hp.mem_iff.mpr hmx
      obtain ⟨gg, egg⟩ := last_max hs hmx' fun z hz => (hbd z (hp.mem_iff.mp hz)).2
      have hml : (roomF r.1 r.2 (ws.drop pk)).length ≤ 1000000 := by
        have := (roomF_ok (w := r.1) (h := r.2) (xs := ws.drop pk) (by omega)).1
        have := hrs r (List.mem_of_getElem? hr0)
        have := this.2.2.2
        omega
      walk_at "sn"
      have hok := roomF_ok (w := r.1) (h := r.2) (xs := ws.drop pk) (by omega)
      have hwd := fun (hne : roomF r.1 r.2 (ws.drop pk) ≠ []) => roomF_words (w := r.1) (h := r.2) (xs := ws.drop pk) (fun v hv => hw v (List.mem_of_mem_drop hv)) hne
      have hni := roomF_nil (w := r.1) (h := r.2) (xs := ws.drop pk)
      have hfe : fN = fillN r.1 r.2 [] (ws.drop pk) := rfl
      rw [← hfe] at hwd hni hpn
      have hlok : ∀ l, l ∈ roomF r.1 r.2 (ws.drop pk) → PyData.strOk l = true := roomF_strOk fun v hv => hw v (List.mem_of_mem_drop hv)
      generalize hrf : roomF r.1 r.2 (ws.drop pk) = rf at *
      obtain ⟨hrl, hrw⟩ := hok
      have hat : atI ((pourS ws rs).1.map fun f => PyData.list (f.map .str)) a = some (.list (rf.map .str)) := by
        rw [e0]; exact atI_nat (by rw [List.getElem?_map, hpa]; rfl)
      walk_at "sv"
      refine idx_list hat ?_
      walk_at "sv"
      · omega
      refine wd_e (we_lcL PyData.str (fun (_ : Str) o => o = none) (.name 15) ?_)
      walk_at "sv"
      refine idx_list hat ⟨rf, rfl, hml, fun l hl B' hB' => ?_, fun ys hy => ?_⟩
      · have hll := hrw l hl
        have hrg := hrs r (List.mem_of_getElem? hr0)
        have hl20 := hrg.2.1
        have hlim : l.length ≤ lim := by
          show l.length ≤ 1000000
          omega
        walk_at "sv"
        · omega
        · rfl
      have ey := Sel.none hy
      subst ey
      clear hy
      have hrg := hrs r (List.mem_of_getElem? hr0)
      have hl20 : ∀ l, l ∈ rf → l.length ≤ 20 := fun l hl => by
        have := hrw l hl
        have := hrg.2.1
        omega
      have hj1 := sum_le (n := 20) hl20
      have hj2 := join_len_le (n := 20) rf hl20
      have hh6 := hrg.2.2.2
      have hnb : noB (.list (rf.map .str)) = true := noB_strs rf
      have hok60 : OkD 60 (.list (rf.map .str)) := OkD.strs hlok
      walk_at "sv"
      rotate_left
      · exact absurd rfl hc
      refine idx_list hat ⟨rf, rfl, by rw [show (Str.ofString " ").length = 1 by decide +kernel]; omega, _, rfl, ?_⟩
      walk_at "sv"
      refine ⟨⟨by decide +kernel, by show (Txt.join spS rf).length < 1000000; omega⟩, _, rfl, ?_⟩
      walk_at "sv"
      refine idx_list hat ?_
      walk_at "sv"
      have hput : ((Txt.split (Txt.join (Str.ofString " ") rf) (Str.ofString " ")).length : Int) * (if (!PyData.eqv (.list (rf.map .str)) (.list [])) = true then 1 else 0) = fN := by
        rw [show Str.ofString " " = spS from rfl]
        by_cases hne : rf = []
        · rw [hni hne, hne, show PyData.eqv (.list (List.map PyData.str [])) (.list []) = true by decide +kernel]
          simp
        · rw [hwd hne, show PyData.eqv (.list (rf.map .str)) (.list []) = false from Bool.eq_false_iff.mpr fun k => hne (List.map_eq_nil_iff.mp (PyData.list.inj ((eqv_iff (noB_strs _) rfl).mp k)))]
          simp
      have hlast : atI (ns'.map PyData.int) (-1) = some (.int ((pk + fN : Nat) : Int)) := by
        rw [egg, List.map_append]
        exact atI_last _ _
      refine idx_list hlast ?_
      rw [hput]
      walk_at "sv"
      any_goals omega
      refine ⟨ns', some (.d (.int a)), some (.d (.int r.1)), some (.d (.int r.2)), some (.ownD (kz.map Sum.inl) xs), o13', o14', ?_, fun v hv => ?_, ?_⟩
      · rw [hpn, Int.natCast_add]
        rfl
      · rw [hpn]
        exact hbd v (hp.mem_iff.mp hv)
      · rw [hpn]
        exact hmx'
  · obtain ⟨wys, o3, o10, o11, o12, o13, o14, rfl, hwy, hpk⟩ := hI
    have ela : (ixs 0 (rs.length : Int).toNat).length = rs.length := by rw [ixs_len]; omega
    rw [ela, List.take_length] at hwy hpk ⊢
    have hpkl : (pourS ws rs).2 ≤ ws.length := pourS_le ..
    have ecd : cutD (ws.map PyData.str) (some ((pourS ws rs).2 : Int)) none = (ws.drop (pourS ws rs).2).map .str := by
      rw [cutD_from (by rw [List.length_map]; exact hpkl), List.map_drop]
    walk_at "sn"
    rw [ecd]
    have hkd : OkD 60 (.list ((ws.drop (pourS ws rs).2).map .str)) := OkD.strs fun v hv => strOk_word (hw v (List.mem_of_mem_drop hv))
    refine ⟨ok2 hkd hkd, ?_⟩
    rw [(eqv_iff (noB_strs _) (noB_strs _)).mpr rfl]
    exact q


end
theorem all_mk {l : PySem.W.OpenLaw} {w : World} {K : Fr} {h : Heap} {mg : Str → Option Value} {fa : Addr} (X : K.In h) (G : h.Ns mainGlobals mg) (hfa : mg "law" = some (.ref fa))
    {t_MOST_SIGNS : Tok}
    {t_SIGNS : Tok}
    {a_PartError : Addr}
    {a_NoNeeds : Addr}
    {a_NoTexts : Addr}
    {f_is_word : Addr} {od_is_word an_is_word : Option Addr} {sl_is_word : Array (Option Value)} {oc_is_word kV_is_word dc_is_word pm_is_word cd_is_word ct_is_word : Value}
    {f_need_words : Addr} {od_need_words an_need_words : Option Addr} {sl_need_words : Array (Option Value)} {oc_need_words kV_need_words dc_need_words pm_need_words cd_need_words ct_need_words : Value}
    {f_is_room : Addr} {od_is_room an_is_room : Option Addr} {sl_is_room : Array (Option Value)} {oc_is_room kV_is_room dc_is_room pm_is_room cd_is_room ct_is_room : Value}
    {f_need_rooms : Addr} {od_need_rooms an_need_rooms : Option Addr} {sl_need_rooms : Array (Option Value)} {oc_need_rooms kV_need_rooms dc_need_rooms pm_need_rooms cd_need_rooms ct_need_rooms : Value}
    {f_filled : Addr} {od_filled an_filled : Option Addr} {sl_filled : Array (Option Value)} {oc_filled kV_filled dc_filled pm_filled cd_filled ct_filled : Value}
    {f_poured : Addr} {od_poured an_poured : Option Addr} {sl_poured : Array (Option Value)} {oc_poured kV_poured dc_poured pm_poured cd_poured ct_poured : Value}
    {f_law_cell_at : Addr} {od_law_cell_at an_law_cell_at : Option Addr} {sl_law_cell_at : Array (Option Value)} {oc_law_cell_at kV_law_cell_at dc_law_cell_at pm_law_cell_at cd_law_cell_at ct_law_cell_at : Value}
    {f_law_take : Addr} {od_law_take an_law_take : Option Addr} {sl_law_take : Array (Option Value)} {oc_law_take kV_law_take dc_law_take pm_law_take cd_law_take ct_law_take : Value}
    {f_law_word : Addr} {od_law_word an_law_word : Option Addr} {sl_law_word : Array (Option Value)} {oc_law_word kV_law_word dc_law_word pm_law_word cd_law_word ct_law_word : Value}
    {f_law_rooms : Addr} {od_law_rooms an_law_rooms : Option Addr} {sl_law_rooms : Array (Option Value)} {oc_law_rooms kV_law_rooms dc_law_rooms pm_law_rooms cd_law_rooms ct_law_rooms : Value}
    {f_law_reached : Addr} {od_law_reached an_law_reached : Option Addr} {sl_law_reached : Array (Option Value)} {oc_law_reached kV_law_reached dc_law_reached pm_law_reached cd_law_reached ct_law_reached : Value}
    {f_law : Addr} {od_law an_law : Option Addr} {sl_law : Array (Option Value)} {oc_law kV_law dc_law pm_law cd_law ct_law : Value}
    (z_ValueError : PySem.W.nsIn K mainGlobals "ValueError" = some none)
    (z_bool : PySem.W.nsIn K mainGlobals "bool" = some none)
    (z_int : PySem.W.nsIn K mainGlobals "int" = some none)
    (z_isinstance : PySem.W.nsIn K mainGlobals "isinstance" = some none)
    (z_len : PySem.W.nsIn K mainGlobals "len" = some none)
    (z_list : PySem.W.nsIn K mainGlobals "list" = some none)
    (z_max : PySem.W.nsIn K mainGlobals "max" = some none)
    (z_min : PySem.W.nsIn K mainGlobals "min" = some none)
    (z_range : PySem.W.nsIn K mainGlobals "range" = some none)
    (z_sorted : PySem.W.nsIn K mainGlobals "sorted" = some none)
    (z_str : PySem.W.nsIn K mainGlobals "str" = some none)
    (z_sum : PySem.W.nsIn K mainGlobals "sum" = some none)
    (z_tuple : PySem.W.nsIn K mainGlobals "tuple" = some none)
    (c_MOST_SIGNS : PySem.W.nsIn K mainGlobals "MOST_SIGNS" = some (some (.int 12 t_MOST_SIGNS)))
    (c_SIGNS : PySem.W.nsIn K mainGlobals "SIGNS" = some (some (.str "!\"#$&'()*+,-./0123456789:;<=>?@ABCDEFGHIJKLMNOPQRSTUVWXYZ[\\]^_`abcdefghijklmnopqrstuvwxyz{|}~" t_SIGNS)))
    (n_PartError : PySem.W.nsIn K mainGlobals "PartError" = some (some (.ref a_PartError)))
    (x_PartError : PySem.W.excIn K a_PartError veX "ValueError.__new__" = true)
    (k_PartError : PySem.W.keepIn K (.ref a_PartError) = true)
    (s_PartError : PySem.W.subIn K (.ref a_PartError) (.type "BaseException") = some true)
    (y_PartError : PySem.W.typeIn K (.ref a_PartError) = some (.type "type"))
    (n_NoNeeds : PySem.W.nsIn K mainGlobals "NoNeeds" = some (some (.ref a_NoNeeds)))
    (x_NoNeeds : PySem.W.excIn K a_NoNeeds veX "ValueError.__new__" = true)
    (k_NoNeeds : PySem.W.keepIn K (.ref a_NoNeeds) = true)
    (s_NoNeeds : PySem.W.subIn K (.ref a_NoNeeds) (.type "BaseException") = some true)
    (y_NoNeeds : PySem.W.typeIn K (.ref a_NoNeeds) = some (.type "type"))
    (n_NoTexts : PySem.W.nsIn K mainGlobals "NoTexts" = some (some (.ref a_NoTexts)))
    (x_NoTexts : PySem.W.excIn K a_NoTexts veX "ValueError.__new__" = true)
    (k_NoTexts : PySem.W.keepIn K (.ref a_NoTexts) = true)
    (s_NoTexts : PySem.W.subIn K (.ref a_NoTexts) (.type "BaseException") = some true)
    (y_NoTexts : PySem.W.typeIn K (.ref a_NoTexts) = some (.type "type"))
    (n_is_word : PySem.W.nsIn K mainGlobals "is_word" = some (some (.ref f_is_word)))
    (l_is_word : K.lookup f_is_word = some ⟨oc_is_word, od_is_word, .func (PySem.W.fnOf "is_word" "is_word" (defArgs s_is_word) (defBody s_is_word) (defScope s_is_word) .none kV_is_word dc_is_word pm_is_word an_is_word cd_is_word ct_is_word), sl_is_word⟩)
    (c_is_word : PySem.W.codeIn K cd_is_word "is_word" = true)
    (k_is_word : PySem.W.keepIn K (.ref f_is_word) = true)
    (n_need_words : PySem.W.nsIn K mainGlobals "need_words" = some (some (.ref f_need_words)))
    (l_need_words : K.lookup f_need_words = some ⟨oc_need_words, od_need_words, .func (PySem.W.fnOf "need_words" "need_words" (defArgs s_need_words) (defBody s_need_words) (defScope s_need_words) .none kV_need_words dc_need_words pm_need_words an_need_words cd_need_words ct_need_words), sl_need_words⟩)
    (c_need_words : PySem.W.codeIn K cd_need_words "need_words" = true)
    (k_need_words : PySem.W.keepIn K (.ref f_need_words) = true)
    (n_is_room : PySem.W.nsIn K mainGlobals "is_room" = some (some (.ref f_is_room)))
    (l_is_room : K.lookup f_is_room = some ⟨oc_is_room, od_is_room, .func (PySem.W.fnOf "is_room" "is_room" (defArgs s_is_room) (defBody s_is_room) (defScope s_is_room) .none kV_is_room dc_is_room pm_is_room an_is_room cd_is_room ct_is_room), sl_is_room⟩)
    (c_is_room : PySem.W.codeIn K cd_is_room "is_room" = true)
    (k_is_room : PySem.W.keepIn K (.ref f_is_room) = true)
    (n_need_rooms : PySem.W.nsIn K mainGlobals "need_rooms" = some (some (.ref f_need_rooms)))
    (l_need_rooms : K.lookup f_need_rooms = some ⟨oc_need_rooms, od_need_rooms, .func (PySem.W.fnOf "need_rooms" "need_rooms" (defArgs s_need_rooms) (defBody s_need_rooms) (defScope s_need_rooms) .none kV_need_rooms dc_need_rooms pm_need_rooms an_need_rooms cd_need_rooms ct_need_rooms), sl_need_rooms⟩)
    (c_need_rooms : PySem.W.codeIn K cd_need_rooms "need_rooms" = true)
    (k_need_rooms : PySem.W.keepIn K (.ref f_need_rooms) = true)
    (n_filled : PySem.W.nsIn K mainGlobals "filled" = some (some (.ref f_filled)))
    (l_filled : K.lookup f_filled = some ⟨oc_filled, od_filled, .func (PySem.W.fnOf "filled" "filled" (defArgs s_filled) (defBody s_filled) (defScope s_filled) .none kV_filled dc_filled pm_filled an_filled cd_filled ct_filled), sl_filled⟩)
    (c_filled : PySem.W.codeIn K cd_filled "filled" = true)
    (k_filled : PySem.W.keepIn K (.ref f_filled) = true)
    (n_poured : PySem.W.nsIn K mainGlobals "poured" = some (some (.ref f_poured)))
    (l_poured : K.lookup f_poured = some ⟨oc_poured, od_poured, .func (PySem.W.fnOf "poured" "poured" (defArgs s_poured) (defBody s_poured) (defScope s_poured) .none kV_poured dc_poured pm_poured an_poured cd_poured ct_poured), sl_poured⟩)
    (c_poured : PySem.W.codeIn K cd_poured "poured" = true)
    (k_poured : PySem.W.keepIn K (.ref f_poured) = true)
    (n_law_cell_at : PySem.W.nsIn K mainGlobals "_law_cell_at" = some (some (.ref f_law_cell_at)))
    (l_law_cell_at : K.lookup f_law_cell_at = some ⟨oc_law_cell_at, od_law_cell_at, .func (PySem.W.fnOf "_law_cell_at" "_law_cell_at" (defArgs s_law_cell_at) (defBody s_law_cell_at) (defScope s_law_cell_at) .none kV_law_cell_at dc_law_cell_at pm_law_cell_at an_law_cell_at cd_law_cell_at ct_law_cell_at), sl_law_cell_at⟩)
    (c_law_cell_at : PySem.W.codeIn K cd_law_cell_at "_law_cell_at" = true)
    (k_law_cell_at : PySem.W.keepIn K (.ref f_law_cell_at) = true)
    (n_law_take : PySem.W.nsIn K mainGlobals "_law_take" = some (some (.ref f_law_take)))
    (l_law_take : K.lookup f_law_take = some ⟨oc_law_take, od_law_take, .func (PySem.W.fnOf "_law_take" "_law_take" (defArgs s_law_take) (defBody s_law_take) (defScope s_law_take) .none kV_law_take dc_law_take pm_law_take an_law_take cd_law_take ct_law_take), sl_law_take⟩)
    (c_law_take : PySem.W.codeIn K cd_law_take "_law_take" = true)
    (k_law_take : PySem.W.keepIn K (.ref f_law_take) = true)
    (n_law_word : PySem.W.nsIn K mainGlobals "_law_word" = some (some (.ref f_law_word)))
    (l_law_word : K.lookup f_law_word = some ⟨oc_law_word, od_law_word, .func (PySem.W.fnOf "_law_word" "_law_word" (defArgs s_law_word) (defBody s_law_word) (defScope s_law_word) .none kV_law_word dc_law_word pm_law_word an_law_word cd_law_word ct_law_word), sl_law_word⟩)
    (c_law_word : PySem.W.codeIn K cd_law_word "_law_word" = true)
    (k_law_word : PySem.W.keepIn K (.ref f_law_word) = true)
    (n_law_rooms : PySem.W.nsIn K mainGlobals "_law_rooms" = some (some (.ref f_law_rooms)))
    (l_law_rooms : K.lookup f_law_rooms = some ⟨oc_law_rooms, od_law_rooms, .func (PySem.W.fnOf "_law_rooms" "_law_rooms" (defArgs s_law_rooms) (defBody s_law_rooms) (defScope s_law_rooms) .none kV_law_rooms dc_law_rooms pm_law_rooms an_law_rooms cd_law_rooms ct_law_rooms), sl_law_rooms⟩)
    (c_law_rooms : PySem.W.codeIn K cd_law_rooms "_law_rooms" = true)
    (k_law_rooms : PySem.W.keepIn K (.ref f_law_rooms) = true)
    (n_law_reached : PySem.W.nsIn K mainGlobals "_law_reached" = some (some (.ref f_law_reached)))
    (l_law_reached : K.lookup f_law_reached = some ⟨oc_law_reached, od_law_reached, .func (PySem.W.fnOf "_law_reached" "_law_reached" (defArgs s_law_reached) (defBody s_law_reached) (defScope s_law_reached) .none kV_law_reached dc_law_reached pm_law_reached an_law_reached cd_law_reached ct_law_reached), sl_law_reached⟩)
    (c_law_reached : PySem.W.codeIn K cd_law_reached "_law_reached" = true)
    (k_law_reached : PySem.W.keepIn K (.ref f_law_reached) = true)
    (n_law : PySem.W.nsIn K mainGlobals "law" = some (some (.ref f_law)))
    (l_law : K.lookup f_law = some ⟨oc_law, od_law, .func (PySem.W.fnOf "law" "law" (defArgs s_law) (defBody s_law) (defScope s_law) .none kV_law dc_law pm_law an_law cd_law ct_law), sl_law⟩)
    (c_law : PySem.W.codeIn K cd_law "law" = true)
    (k_law : PySem.W.keepIn K (.ref f_law) = true) :
    ∃ fd : FuncData, (∀ (s : Shared) (v : Value), BindsTo s fd ⟨[v], []⟩ [("script", v)]) ∧ ∀ base : Heap, K.In base → base.Ns mainGlobals mg → FnOk l.prog w K mg base CX0 4 fa fd ["script"] (SpG K none G_law) := by
  have e2 : f_law = fa := (Value.ref.inj (Option.some.inj (hfa.symm.trans (PySem.W.mg_of X G n_law)))).symm
  subst e2
  let T : Txt K mg :=
    { b_ValueError := PySem.W.mg_none_of X G z_ValueError
      b_bool := PySem.W.mg_none_of X G z_bool
      b_int := PySem.W.mg_none_of X G z_int
      b_isinstance := PySem.W.mg_none_of X G z_isinstance
      b_len := PySem.W.mg_none_of X G z_len
      b_list := PySem.W.mg_none_of X G z_list
      b_max := PySem.W.mg_none_of X G z_max
      b_min := PySem.W.mg_none_of X G z_min
      b_range := PySem.W.mg_none_of X G z_range
      b_sorted := PySem.W.mg_none_of X G z_sorted
      b_str := PySem.W.mg_none_of X G z_str
      b_sum := PySem.W.mg_none_of X G z_sum
      b_tuple := PySem.W.mg_none_of X G z_tuple
      t_MOST_SIGNS := t_MOST_SIGNS
      c_MOST_SIGNS := PySem.W.mg_of X G c_MOST_SIGNS
      t_SIGNS := t_SIGNS
      c_SIGNS := PySem.W.mg_of X G c_SIGNS
      a_PartError := a_PartError
      PartError := ⟨PySem.W.mg_of X G n_PartError, x_PartError, k_PartError, s_PartError, y_PartError⟩
      a_NoNeeds := a_NoNeeds
      NoNeeds := ⟨PySem.W.mg_of X G n_NoNeeds, x_NoNeeds, k_NoNeeds, s_NoNeeds, y_NoNeeds⟩
      a_NoTexts := a_NoTexts
      NoTexts := ⟨PySem.W.mg_of X G n_NoTexts, x_NoTexts, k_NoTexts, s_NoTexts, y_NoTexts⟩
      f_is_word := f_is_word
      fd_is_word := _
      d_is_word := ⟨fun_mk (st := s_is_word) l_is_word c_is_word k_is_word, PySem.W.mg_of X G n_is_word, (fun_mk (st := s_is_word) l_is_word c_is_word k_is_word).binds (ps := ["thing"]) fun _ _ _ _ _ _ us hl => match us, hl with | [_], _ => rfl⟩
      f_need_words := f_need_words
      fd_need_words := _
      d_need_words := ⟨fun_mk (st := s_need_words) l_need_words c_need_words k_need_words, PySem.W.mg_of X G n_need_words, (fun_mk (st := s_need_words) l_need_words c_need_words k_need_words).binds (ps := ["things"]) fun _ _ _ _ _ _ us hl => match us, hl with | [_], _ => rfl⟩
      f_is_room := f_is_room
      fd_is_room := _
      d_is_room := ⟨fun_mk (st := s_is_room) l_is_room c_is_room k_is_room, PySem.W.mg_of X G n_is_room, (fun_mk (st := s_is_room) l_is_room c_is_room k_is_room).binds (ps := ["thing"]) fun _ _ _ _ _ _ us hl => match us, hl with | [_], _ => rfl⟩
      f_need_rooms := f_need_rooms
      fd_need_rooms := _
      d_need_rooms := ⟨fun_mk (st := s_need_rooms) l_need_rooms c_need_rooms k_need_rooms, PySem.W.mg_of X G n_need_rooms, (fun_mk (st := s_need_rooms) l_need_rooms c_need_rooms k_need_rooms).binds (ps := ["things"]) fun _ _ _ _ _ _ us hl => match us, hl with | [_], _ => rfl⟩
      f_filled := f_filled
      fd_filled := _
      d_filled := ⟨fun_mk (st := s_filled) l_filled c_filled k_filled, PySem.W.mg_of X G n_filled, (fun_mk (st := s_filled) l_filled c_filled k_filled).binds (ps := ["words", "at", "wide", "high"]) fun _ _ _ _ _ _ us hl => match us, hl with | [_, _, _, _], _ => rfl⟩
      f_poured := f_poured
      fd_poured := _
      d_poured := ⟨fun_mk (st := s_poured) l_poured c_poured k_poured, PySem.W.mg_of X G n_poured, (fun_mk (st := s_poured) l_poured c_poured k_poured).binds (ps := ["words", "rooms"]) fun _ _ _ _ _ _ us hl => match us, hl with | [_, _], _ => rfl⟩
      f_law_cell_at := f_law_cell_at
      fd_law_cell_at := _
      d_law_cell_at := ⟨fun_mk (st := s_law_cell_at) l_law_cell_at c_law_cell_at k_law_cell_at, PySem.W.mg_of X G n_law_cell_at, (fun_mk (st := s_law_cell_at) l_law_cell_at c_law_cell_at k_law_cell_at).binds (ps := ["script", "k"]) fun _ _ _ _ _ _ us hl => match us, hl with | [_, _], _ => rfl⟩
      f_law_take := f_law_take
      fd_law_take := _
      d_law_take := ⟨fun_mk (st := s_law_take) l_law_take c_law_take k_law_take, PySem.W.mg_of X G n_law_take, (fun_mk (st := s_law_take) l_law_take c_law_take k_law_take).binds (ps := ["deck", "many"]) fun _ _ _ _ _ _ us hl => match us, hl with | [_, _], _ => rfl⟩
      f_law_word := f_law_word
      fd_law_word := _
      d_law_word := ⟨fun_mk (st := s_law_word) l_law_word c_law_word k_law_word, PySem.W.mg_of X G n_law_word, (fun_mk (st := s_law_word) l_law_word c_law_word k_law_word).binds (ps := ["cell", "way"]) fun _ _ _ _ _ _ us hl => match us, hl with | [_, _], _ => rfl⟩
      f_law_rooms := f_law_rooms
      fd_law_rooms := _
      d_law_rooms := ⟨fun_mk (st := s_law_rooms) l_law_rooms c_law_rooms k_law_rooms, PySem.W.mg_of X G n_law_rooms, (fun_mk (st := s_law_rooms) l_law_rooms c_law_rooms k_law_rooms).binds (ps := ["script"]) fun _ _ _ _ _ _ us hl => match us, hl with | [_], _ => rfl⟩
      f_law_reached := f_law_reached
      fd_law_reached := _
      d_law_reached := ⟨fun_mk (st := s_law_reached) l_law_reached c_law_reached k_law_reached, PySem.W.mg_of X G n_law_reached, (fun_mk (st := s_law_reached) l_law_reached c_law_reached k_law_reached).binds (ps := ["words", "first", "wide", "high"]) fun _ _ _ _ _ _ us hl => match us, hl with | [_, _, _, _], _ => rfl⟩
      f_law := f_law
      fd_law := _
      d_law := ⟨fun_mk (st := s_law) l_law c_law k_law, PySem.W.mg_of X G n_law, (fun_mk (st := s_law) l_law c_law k_law).binds (ps := ["script"]) fun _ _ _ _ _ _ us hl => match us, hl with | [_], _ => rfl⟩ }
  exact ⟨T.fd_law, fun s v => .of_eq rfl, fun base _ _ => ok_law T⟩
end SV
open PySem PySem.W PyProof.Rows
set_option maxHeartbeats 0 in
theorem PySem.Challenge.cw_pagepart_k72_whole_no_way_puts_more_holds : PySem.Challenge.rw_pagepart_k72_whole_no_way_puts_more.Holds := by
  w_on; o_law; k_head; (case hw => w_witness2)
  k_fill
  refine L2.walk_of (l := PySem.Challenge.rw_pagepart_k72_whole_no_way_puts_more) (n := 63) (k := 4) (x := "script") (CX := fun _ => L2.CX0) (sp := fun w => SV.SpG _ none SV.G_law) rfl (by decide) rfl ⟨rfl, by decide, by decide⟩ (fun w h Y => PySem.W.kIn_of Y) ?F (fun _ H a ns hl _ hS => SV.law_sp hS hl) (fun _ _ _ _ _ h => h)
  case F =>
    intro w mg fa h KX G hmg
    refine' SV.all_mk KX G hmg ?z_ValueError ?z_bool ?z_int ?z_isinstance ?z_len ?z_list ?z_max ?z_min ?z_range ?z_sorted ?z_str ?z_sum ?z_tuple ?c_MOST_SIGNS ?c_SIGNS ?n_PartError ?x_PartError ?k_PartError ?s_PartError ?y_PartError ?n_NoNeeds ?x_NoNeeds ?k_NoNeeds ?s_NoNeeds ?y_NoNeeds ?n_NoTexts ?x_NoTexts ?k_NoTexts ?s_NoTexts ?y_NoTexts ?n_is_word ?l_is_word ?c_is_word ?k_is_word ?n_need_words ?l_need_words ?c_need_words ?k_need_words ?n_is_room ?l_is_room ?c_is_room ?k_is_room ?n_need_rooms ?l_need_rooms ?c_need_rooms ?k_need_rooms ?n_filled ?l_filled ?c_filled ?k_filled ?n_poured ?l_poured ?c_poured ?k_poured ?n_law_cell_at ?l_law_cell_at ?c_law_cell_at ?k_law_cell_at ?n_law_take ?l_law_take ?c_law_take ?k_law_take ?n_law_word ?l_law_word ?c_law_word ?k_law_word ?n_law_rooms ?l_law_rooms ?c_law_rooms ?k_law_rooms ?n_law_reached ?l_law_reached ?c_law_reached ?k_law_reached ?n_law ?l_law ?c_law ?k_law
    (case z_ValueError => k_is); (case z_bool => k_is); (case z_int => k_is); (case z_isinstance => k_is); (case z_len => k_is); (case z_list => k_is); (case z_max => k_is); (case z_min => k_is); (case z_range => k_is); (case z_sorted => k_is); (case z_str => k_is); (case z_sum => k_is); (case z_tuple => k_is); (case c_MOST_SIGNS => k_is); (case c_SIGNS => k_is); (case n_PartError => k_is); (case x_PartError => k_exc); (case k_PartError => k_is); (case s_PartError => k_is); (case y_PartError => k_is); (case n_NoNeeds => k_is); (case x_NoNeeds => k_exc); (case k_NoNeeds => k_is); (case s_NoNeeds => k_is); (case y_NoNeeds => k_is); (case n_NoTexts => k_is); (case x_NoTexts => k_exc); (case k_NoTexts => k_is); (case s_NoTexts => k_is); (case y_NoTexts => k_is); (case n_is_word => k_is); (case l_is_word => k_is); (case c_is_word => k_is); (case k_is_word => k_is); (case n_need_words => k_is); (case l_need_words => k_is); (case c_need_words => k_is); (case k_need_words => k_is); (case n_is_room => k_is); (case l_is_room => k_is); (case c_is_room => k_is); (case k_is_room => k_is); (case n_need_rooms => k_is); (case l_need_rooms => k_is); (case c_need_rooms => k_is); (case k_need_rooms => k_is); (case n_filled => k_is); (case l_filled => k_is); (case c_filled => k_is); (case k_filled => k_is); (case n_poured => k_is); (case l_poured => k_is); (case c_poured => k_is); (case k_poured => k_is); (case n_law_cell_at => k_is); (case l_law_cell_at => k_is); (case c_law_cell_at => k_is); (case k_law_cell_at => k_is); (case n_law_take => k_is); (case l_law_take => k_is); (case c_law_take => k_is); (case k_law_take => k_is); (case n_law_word => k_is); (case l_law_word => k_is); (case c_law_word => k_is); (case k_law_word => k_is); (case n_law_rooms => k_is); (case l_law_rooms => k_is); (case c_law_rooms => k_is); (case k_law_rooms => k_is); (case n_law_reached => k_is); (case l_law_reached => k_is); (case c_law_reached => k_is); (case k_law_reached => k_is); (case n_law => k_is); (case l_law => k_is); (case c_law => k_is); (case k_law => k_is)
