import PyProof.Rows.All
import Wide.All
import OpenK.AllK
import Wide.FinOn
import HandS.ForMost
import HandS.Evl
import HandS.Exc
import HandS.ExcOwn
import HandS.TryOnly
import HandS.WordsExc
import HandS.IsInst
import HandS.Lambda
import HandS.TupAny
import HandS.Text
import HandS.Comp
import HandS.ExcIs
import HandS.Style
import HandS.WordsDict
import HandS.More
import HandS.SortRule
import HandS.SortKw
import KE.KSortTupAny
import KE.KDictWalk
import KE.SortKeyHeap
import HandS.EndTab
import KE.KNestM
import KE.GoesEnum
import KE.KDictLaws
import HandS.Conv
import HandS.SetFor
import HandS.Deep
import HandS.Zip
import KE.KRevSl
import KE.KDictZip
import HandS.ListItems
import PySem.Challenge.RW_pagepart_k66_printed
set_option Elab.async false
set_option linter.all false
set_option maxRecDepth 100000
set_option autoImplicit false
set_option maxHeartbeats 1000000
/-! SV: readings over plain data. A frozen heap F (only grows, holds all plain data), lists that a frame owns, slots that hold data. -/
namespace SV
open PySem PySem.Spec L2

abbrev Fr := PySem.W.Frag
end SV
namespace Evl.Ex
open PySem L2 SV
theorem sl {K : SV.Fr} {H H' : Hp} {a : Addr} {xs : List V} (e : Evl.Ex H H') (h : SqL K H a xs) : SqL K H' a xs := Evl.ex_l e h
theorem stt {K : SV.Fr} {H H' : Hp} {a : Addr} {xs : List V} (e : Evl.Ex H H') (h : SqT K H a xs) : SqT K H' a xs := Evl.ex_t e h
theorem free {H H' : Hp} {p : Addr} (e : Evl.Ex H H') (h : H' p = none) : H p = none := Evl.fresh_back e h
end Evl.Ex
namespace SV
open PySem PySem.Spec L2
open Evl (Ex)

/-! ### plain data in a heap -/
mutual
inductive Rp (K : Fr) (F : Hp) : V → PyData → Prop
  | non : Rp K F .non .none
  | bl (b : Bool) : Rp K F (.bl b) (.bool b)
  | int (i : Int) : Rp K F (.int i) (.int i)
  | str (x : Str) : Rp K F (.str x) (.str x)
  | lst {a : Addr} {vs : List V} {xs : List PyData} : F a = some (.lst vs) → RpA K F vs xs → Rp K F (.ref a) (.list xs)
  | tup {a : Addr} {vs : List V} {xs : List PyData} : SqT K F a vs → RpA K F vs xs → Rp K F (.ref a) (.tuple xs)
  | dct {a : Addr} : F a = some (.dK []) → Rp K F (.ref a) (.dict [])
inductive RpA (K : Fr) (F : Hp) : List V → List PyData → Prop
  | nil : RpA K F [] []
  | cons {v : V} {vs : List V} {d : PyData} {ds : List PyData} : Rp K F v d → RpA K F vs ds → RpA K F (v :: vs) (d :: ds)
end
section
variable {K : Fr} {F F' H H' : Hp}
mutual
theorem Rp.mono (e : Ex F F') : ∀ {d : PyData} {v : V}, Rp K F v d → Rp K F' v d
  | .none, _, .non => .non
  | .bool _, _, .bl b => .bl b
  | .int _, _, .int b => .int b
  | .str _, _, .str b => .str b
  | .list _, _, .lst h r => .lst (e _ _ h) (RpA.mono e r)
  | .tuple _, _, .tup h r => .tup (e.stt h) (RpA.mono e r)
  | .dict _, _, .dct h => .dct (e _ _ h)
theorem RpA.mono (e : Ex F F') : ∀ {ds : List PyData} {vs : List V}, RpA K F vs ds → RpA K F' vs ds
  | [], _, .nil => .nil
  | _ :: _, _, .cons h r => .cons (Rp.mono e h) (RpA.mono e r)
end
theorem RpA.length : ∀ {ds : List PyData} {vs : List V}, RpA K F vs ds → vs.length = ds.length
  | [], _, .nil => rfl
  | _ :: _, _, .cons _ r => congrArg (· + 1) (RpA.length r)
theorem RpA.get : ∀ {ds : List PyData} {vs : List V} {i : Nat} {v : V}, RpA K F vs ds → vs[i]? = some v → ∃ d, ds[i]? = some d ∧ Rp K F v d
  | [], _, _, _, .nil, h => by simp at h
  | d :: _, _, 0, _, .cons q _, h => by
    have e := Option.some.inj h
    subst e
    exact ⟨d, rfl, q⟩
  | _ :: _, _, i + 1, _, .cons _ r, h => RpA.get (i := i) r h
theorem RpA.get' : ∀ {ds : List PyData} {vs : List V} {i : Nat} {d : PyData}, RpA K F vs ds → ds[i]? = some d → ∃ v, vs[i]? = some v ∧ Rp K F v d
  | [], _, _, _, .nil, h => by simp at h
  | d :: _, v :: _, 0, _, .cons q _, h => by
    have e := Option.some.inj h
    subst e
    exact ⟨v, rfl, q⟩
  | _ :: _, _ :: _, i + 1, _, .cons _ r, h => RpA.get' (i := i) r h
theorem RpA.append : ∀ {ds es : List PyData} {vs ws : List V}, RpA K F vs ds → RpA K F ws es → RpA K F (vs ++ ws) (ds ++ es)
  | [], _, _, _, .nil, s => s
  | _ :: _, _, _, _, .cons h r, s => .cons h (RpA.append r s)
theorem RpA.take : ∀ {ds : List PyData} {vs : List V} (n : Nat), RpA K F vs ds → RpA K F (vs.take n) (ds.take n)
  | _, _, 0, _ => .nil
  | [], _, _ + 1, .nil => .nil
  | _ :: _, _, n + 1, .cons h r => .cons h (RpA.take n r)
theorem RpA.drop : ∀ {ds : List PyData} {vs : List V} (n : Nat), RpA K F vs ds → RpA K F (vs.drop n) (ds.drop n)
  | _, _, 0, r => r
  | [], _, _ + 1, .nil => .nil
  | _ :: _, _, n + 1, .cons _ r => RpA.drop n r
theorem RpA.set : ∀ {ds : List PyData} {vs : List V} {v : V} {d : PyData} (i : Nat), RpA K F vs ds → Rp K F v d → RpA K F (vs.set i v) (ds.set i d)
  | [], _, _, _, _, .nil, _ => .nil
  | _ :: _, _, _, _, 0, .cons _ r, q => .cons q r
  | _ :: _, _, _, _, i + 1, .cons h r, q => .cons h (RpA.set i r q)
theorem RpA.dropLast : ∀ {ds : List PyData} {vs : List V}, RpA K F vs ds → RpA K F vs.dropLast ds.dropLast := fun {ds vs} r => by
  rw [List.dropLast_eq_take, List.dropLast_eq_take, r.length]
  exact r.take _
theorem RpA.erase : ∀ {ds : List PyData} {vs : List V} (i : Nat), RpA K F vs ds → RpA K F (vs.eraseIdx i) (ds.eraseIdx i)
  | [], _, _, .nil => .nil
  | _ :: _, _, 0, .cons _ r => r
  | _ :: _, _, i + 1, .cons h r => .cons h (RpA.erase i r)
theorem RpA.reverse {ds : List PyData} {vs : List V} (r : RpA K F vs ds) : RpA K F vs.reverse ds.reverse := by
  induction ds generalizing vs with
  | nil => cases r; exact .nil
  | cons d ds ih =>
    cases r with
    | cons h r =>
      rw [List.reverse_cons, List.reverse_cons]
      exact (ih r).append (.cons h .nil)
theorem RpA.rep {ds : List PyData} {vs : List V} (r : RpA K F vs ds) : ∀ k : Nat, RpA K F (List.replicate k vs).flatten (List.replicate k ds).flatten
  | 0 => .nil
  | k + 1 => by
    rw [List.replicate_succ, List.replicate_succ, List.flatten_cons, List.flatten_cons]
    exact r.append (RpA.rep r k)
/-! scalars -/
theorem Rp.int_inv {v : V} {i : Int} (h : Rp K F v (.int i)) : v = .int i := by cases h; rfl
theorem Rp.bl_inv {v : V} {i : Bool} (h : Rp K F v (.bool i)) : v = .bl i := by cases h; rfl
theorem Rp.str_inv {v : V} {i : Str} (h : Rp K F v (.str i)) : v = .str i := by cases h; rfl
theorem Rp.non_inv {v : V} (h : Rp K F v .none) : v = .non := by cases h; rfl
theorem RpA.ints : ∀ {ns : List Int} {vs : List V}, RpA K F vs (ns.map .int) → vs = ns.map V.int
  | [], _, .nil => rfl
  | n :: ns, _, .cons h r => by rw [h.int_inv, RpA.ints (ns := ns) r, List.map_cons]
theorem RpA.strs : ∀ {ns : List Str} {vs : List V}, RpA K F vs (ns.map .str) → vs = ns.map V.str
  | [], _, .nil => rfl
  | n :: ns, _, .cons h r => by rw [h.str_inv, RpA.strs (ns := ns) r, List.map_cons]
theorem RpA.bls : ∀ {ns : List Bool} {vs : List V}, RpA K F vs (ns.map .bool) → vs = ns.map V.bl
  | [], _, .nil => rfl
  | n :: ns, _, .cons h r => by rw [h.bl_inv, RpA.bls (ns := ns) r, List.map_cons]
theorem RpA.of_ints : ∀ (ns : List Int), RpA K F (ns.map V.int) (ns.map .int)
  | [] => .nil
  | n :: ns => .cons (.int n) (RpA.of_ints ns)
theorem RpA.of_strs : ∀ (ns : List Str), RpA K F (ns.map V.str) (ns.map .str)
  | [] => .nil
  | n :: ns => .cons (.str n) (RpA.of_strs ns)
/-! no dict within: the library's data -/
mutual
def noD : PyData → Bool
  | .list xs => noDs xs
  | .tuple xs => noDs xs
  | .dict _ => false
  | _ => true
def noDs : List PyData → Bool
  | [] => true
  | x :: xs => noD x && noDs xs
end
mutual
theorem Rp.dp (e : Ex F H) : ∀ {d : PyData} {v : V}, Rp K F v d → noD d = true → Dp K H v d
  | .none, _, .non, _ => .non
  | .bool _, _, .bl b, _ => .bl b
  | .int _, _, .int b, _ => .int b
  | .str _, _, .str b, _ => .str b
  | .list _, _, .lst h r, n => .lst (.inl (.inl (e _ _ h))) (RpA.dp e r (by unfold noD at n; exact n))
  | .tuple _, _, .tup h r, n => .tup (e.stt h) (RpA.dp e r (by unfold noD at n; exact n))
  | .dict _, _, .dct h, n => by unfold noD at n; cases n
theorem RpA.dp (e : Ex F H) : ∀ {ds : List PyData} {vs : List V}, RpA K F vs ds → noDs ds = true → DpAll K H vs ds
  | [], _, .nil, _ => .nil
  | _ :: _, _, .cons h r, n => by
    unfold noDs at n
    have n' := Bool.and_eq_true_iff.mp n
    exact .cons (Rp.dp e h n'.1) (RpA.dp e r n'.2)
end
end

/-! ### objects that a frame owns, as a tree with their addresses -/
inductive OT where
  | d (x : PyData)
  | lst (a : Addr) (ts : List OT)
  | tup (a : Addr) (ts : List OT)
  | dct (a : Addr) (ks : List Key) (ts : List OT)
mutual
def OT.fp : OT → List Addr
  | .d _ => []
  | .lst a ts => a :: fps ts
  | .tup a ts => a :: fps ts
  | .dct a _ ts => a :: fps ts
def fps : List OT → List Addr
  | [] => []
  | t :: ts => t.fp ++ fps ts
end
mutual
def OT.data : OT → PyData
  | .d x => x
  | .lst _ ts => .list (datas ts)
  | .tup _ ts => .tuple (datas ts)
  | .dct _ _ _ => .dict []
def datas : List OT → List PyData
  | [] => []
  | t :: ts => t.data :: datas ts
end
mutual
def OT.isD : OT → Bool
  | .d _ => true
  | .lst _ ts => areD ts
  | .tup _ ts => areD ts
  | .dct _ _ _ => false
def areD : List OT → Bool
  | [] => true
  | t :: ts => t.isD && areD ts
end
mutual
inductive Ot (K : Fr) (F H : Hp) : V → OT → Prop
  | d {v : V} {x : PyData} : Rp K F v x → Ot K F H v (.d x)
  | lst {a : Addr} {vs : List V} {ts : List OT} : F a = none → H a = some (.lst vs) → OtA K F H vs ts → Ot K F H (.ref a) (.lst a ts)
  | tup {a : Addr} {vs : List V} {ts : List OT} : F a = none → H a = some (.tup vs) → OtA K F H vs ts → Ot K F H (.ref a) (.tup a ts)
  | dct {a : Addr} {ks : List Key} {vs : List V} {ts : List OT} : F a = none → H a = some (.dK (ks.zip vs)) → ks.length = ts.length → OtA K F H vs ts → Ot K F H (.ref a) (.dct a ks ts)
inductive OtA (K : Fr) (F H : Hp) : List V → List OT → Prop
  | nil : OtA K F H [] []
  | cons {v : V} {vs : List V} {t : OT} {ts : List OT} : Ot K F H v t → OtA K F H vs ts → OtA K F H (v :: vs) (t :: ts)
end
section
variable {K : Fr} {F F' H H' : Hp}
theorem fps_map_d : ∀ xs : List PyData, fps (xs.map .d) = []
  | [] => rfl
  | _ :: xs => fps_map_d xs
theorem datas_map_d : ∀ xs : List PyData, datas (xs.map .d) = xs
  | [] => rfl
  | x :: xs => congrArg (x :: ·) (datas_map_d xs)
theorem areD_map_d : ∀ xs : List PyData, areD (xs.map .d) = true
  | [] => rfl
  | _ :: xs => areD_map_d xs
theorem fps_app : ∀ xs ys : List OT, fps (xs ++ ys) = fps xs ++ fps ys
  | [], _ => rfl
  | x :: xs, ys => by
    show x.fp ++ fps (xs ++ ys) = _
    rw [fps_app xs ys, ← List.append_assoc]
    rfl
theorem datas_app : ∀ xs ys : List OT, datas (xs ++ ys) = datas xs ++ datas ys
  | [], _ => rfl
  | x :: xs, ys => congrArg (x.data :: ·) (datas_app xs ys)
theorem areD_app : ∀ xs ys : List OT, areD (xs ++ ys) = (areD xs && areD ys)
  | [], _ => rfl
  | x :: xs, ys => by
    show (x.isD && areD (xs ++ ys)) = _
    rw [areD_app xs ys, ← Bool.and_assoc]
    rfl
theorem datas_len : ∀ ts : List OT, (datas ts).length = ts.length
  | [] => rfl
  | _ :: ts => congrArg (· + 1) (datas_len ts)
theorem datas_eq : ∀ ts : List OT, datas ts = ts.map OT.data
  | [] => rfl
  | t :: ts => congrArg (t.data :: ·) (datas_eq ts)
theorem fp_sub {t : OT} {ts : List OT} (h : t ∈ ts) {a : Addr} (ha : a ∈ t.fp) : a ∈ fps ts := by
  induction ts with
  | nil => cases h
  | cons u us ih =>
    rcases List.mem_cons.mp h with rfl | h
    · exact List.mem_append_left _ ha
    · exact List.mem_append_right _ (ih h)
theorem fps_in {ts : List OT} {a : Addr} (ha : a ∈ fps ts) : ∃ t, t ∈ ts ∧ a ∈ t.fp := by
  induction ts with
  | nil => cases ha
  | cons u us ih =>
    rcases List.mem_append.mp ha with h | h
    · exact ⟨u, List.mem_cons_self, h⟩
    · obtain ⟨t, h1, h2⟩ := ih h
      exact ⟨t, List.mem_cons_of_mem _ h1, h2⟩
mutual
theorem Ot.mono (ef : Ex F F') : ∀ {t : OT} {v : V}, Ot K F H v t → (∀ a, a ∈ t.fp → F' a = none ∧ H' a = H a) → Ot K F' H' v t
  | .d _, _, .d h, _ => .d (Rp.mono ef h)
  | .lst a _, _, .lst h1 h2 h3, e => .lst (e a List.mem_cons_self).1 ((e a List.mem_cons_self).2.trans h2) (OtA.mono ef h3 fun b hb => e b (List.mem_cons_of_mem _ hb))
  | .tup a _, _, .tup h1 h2 h3, e => .tup (e a List.mem_cons_self).1 ((e a List.mem_cons_self).2.trans h2) (OtA.mono ef h3 fun b hb => e b (List.mem_cons_of_mem _ hb))
  | .dct a _ _, _, .dct h1 h2 hl h3, e => .dct (e a List.mem_cons_self).1 ((e a List.mem_cons_self).2.trans h2) hl (OtA.mono ef h3 fun b hb => e b (List.mem_cons_of_mem _ hb))
theorem OtA.mono (ef : Ex F F') : ∀ {ts : List OT} {vs : List V}, OtA K F H vs ts → (∀ a, a ∈ fps ts → F' a = none ∧ H' a = H a) → OtA K F' H' vs ts
  | [], _, .nil, _ => .nil
  | _ :: _, _, .cons h r, e => .cons (Ot.mono ef h fun b hb => e b (List.mem_append_left _ hb)) (OtA.mono ef r fun b hb => e b (List.mem_append_right _ hb))
end
mutual
theorem Ot.live : ∀ {t : OT} {v : V}, Ot K F H v t → ∀ {a : Addr}, a ∈ t.fp → F a = none ∧ ∃ o, H a = some o
  | .d _, _, .d _, _, ha => nomatch ha
  | .lst _ _, _, .lst h1 h2 h3, _, ha => (List.mem_cons.mp ha).elim (fun e => by subst e; exact ⟨h1, _, h2⟩) fun h => OtA.live h3 h
  | .tup _ _, _, .tup h1 h2 h3, _, ha => (List.mem_cons.mp ha).elim (fun e => by subst e; exact ⟨h1, _, h2⟩) fun h => OtA.live h3 h
  | .dct _ _ _, _, .dct h1 h2 _ h3, _, ha => (List.mem_cons.mp ha).elim (fun e => by subst e; exact ⟨h1, _, h2⟩) fun h => OtA.live h3 h
theorem OtA.live : ∀ {ts : List OT} {vs : List V}, OtA K F H vs ts → ∀ {a : Addr}, a ∈ fps ts → F a = none ∧ ∃ o, H a = some o
  | [], _, .nil, _, ha => nomatch ha
  | _ :: _, _, .cons h r, _, ha => (List.mem_append.mp ha).elim (fun k => Ot.live h k) fun k => OtA.live r k
end
mutual
theorem Ot.rp (ef : Ex F F') : ∀ {t : OT} {v : V}, Ot K F H v t → t.isD = true → (∀ a, a ∈ t.fp → F' a = H a) → Rp K F' v t.data
  | .d _, _, .d h, _, _ => by
    unfold OT.data
    exact Rp.mono ef h
  | .lst a _, _, .lst h1 h2 h3, n, e => by
    unfold OT.data
    unfold OT.isD at n
    exact .lst ((e a List.mem_cons_self).trans h2) (OtA.rp ef h3 n fun b hb => e b (List.mem_cons_of_mem _ hb))
  | .tup a _, _, .tup h1 h2 h3, n, e => by
    unfold OT.data
    unfold OT.isD at n
    exact .tup (.inl (.inl ((e a List.mem_cons_self).trans h2))) (OtA.rp ef h3 n fun b hb => e b (List.mem_cons_of_mem _ hb))
  | .dct a _ _, _, .dct h1 h2 hl h3, n, e => by
    unfold OT.isD at n
    cases n
theorem OtA.rp (ef : Ex F F') : ∀ {ts : List OT} {vs : List V}, OtA K F H vs ts → areD ts = true → (∀ a, a ∈ fps ts → F' a = H a) → RpA K F' vs (datas ts)
  | [], _, .nil, _, _ => .nil
  | _ :: _, _, .cons h r, n, e => by
    unfold areD at n
    have n' := Bool.and_eq_true_iff.mp n
    exact .cons (Ot.rp ef h n'.1 fun b hb => e b (List.mem_append_left _ hb)) (OtA.rp ef r n'.2 fun b hb => e b (List.mem_append_right _ hb))
end
theorem OtA.length : ∀ {ts : List OT} {vs : List V}, OtA K F H vs ts → vs.length = ts.length
  | [], _, .nil => rfl
  | _ :: _, _, .cons _ r => congrArg (· + 1) (OtA.length r)
theorem OtA.get : ∀ {ts : List OT} {vs : List V} {i : Nat} {v : V}, OtA K F H vs ts → vs[i]? = some v → ∃ t, ts[i]? = some t ∧ Ot K F H v t
  | [], _, _, _, .nil, h => by simp at h
  | t :: _, _, 0, _, .cons q _, h => by
    have e := Option.some.inj h
    subst e
    exact ⟨t, rfl, q⟩
  | _ :: _, _, i + 1, _, .cons _ r, h => OtA.get (i := i) r h
theorem OtA.get' : ∀ {ts : List OT} {vs : List V} {i : Nat} {t : OT}, OtA K F H vs ts → ts[i]? = some t → ∃ v, vs[i]? = some v ∧ Ot K F H v t
  | [], _, _, _, .nil, h => by simp at h
  | t :: _, v :: _, 0, _, .cons q _, h => by
    have e := Option.some.inj h
    subst e
    exact ⟨v, rfl, q⟩
  | _ :: _, _ :: _, i + 1, _, .cons _ r, h => OtA.get' (i := i) r h
theorem OtA.append : ∀ {ts us : List OT} {vs ws : List V}, OtA K F H vs ts → OtA K F H ws us → OtA K F H (vs ++ ws) (ts ++ us)
  | [], _, _, _, .nil, s => s
  | _ :: _, _, _, _, .cons h r, s => .cons h (OtA.append r s)
theorem OtA.set : ∀ {ts : List OT} {vs : List V} {v : V} {t : OT} (i : Nat), OtA K F H vs ts → Ot K F H v t → OtA K F H (vs.set i v) (ts.set i t)
  | [], _, _, _, _, .nil, _ => .nil
  | _ :: _, _, _, _, 0, .cons _ r, q => .cons q r
  | _ :: _, _, _, _, i + 1, .cons h r, q => .cons h (OtA.set i r q)
theorem OtA.take : ∀ {ts : List OT} {vs : List V} (n : Nat), OtA K F H vs ts → OtA K F H (vs.take n) (ts.take n)
  | _, _, 0, _ => .nil
  | [], _, _ + 1, .nil => .nil
  | _ :: _, _, n + 1, .cons h r => .cons h (OtA.take n r)
theorem OtA.dropLast {ts : List OT} {vs : List V} (r : OtA K F H vs ts) : OtA K F H vs.dropLast ts.dropLast := by
  rw [List.dropLast_eq_take, List.dropLast_eq_take, r.length]
  exact r.take _
theorem OtA.of_rp : ∀ {xs : List PyData} {vs : List V}, RpA K F vs xs → OtA K F H vs (xs.map .d)
  | [], _, .nil => .nil
  | _ :: _, _, .cons h r => .cons (.d h) (OtA.of_rp r)
theorem OtA.to_rp : ∀ {xs : List PyData} {vs : List V}, OtA K F H vs (xs.map .d) → RpA K F vs xs
  | [], _, .nil => .nil
  | _ :: _, _, .cons (.d h) r => .cons h (OtA.to_rp r)
end

/-! ### slots, the base of a frame, what holds in it -/
inductive L where
  | d (x : PyData)
  | own (xs : List PyData)
  | scr (ns : List Int)
  | raw (v : V)
  | deep (t : OT)
  | ownD (ks : List Key) (xs : List PyData)
abbrev En := List (Option L)
structure Bs where
  F0 : Hp
  H0 : Hp
  pin : Option (Nat × Addr)
def SlotOk (K : Fr) (F H : Hp) (v : V) : L → Prop
  | .d x => Rp K F v x
  | .own xs => ∃ a vs, v = .ref a ∧ F a = none ∧ H a = some (.lst vs) ∧ RpA K F vs xs
  | .scr ns => ∃ a, v = .ref a ∧ SqL K F a (ns.map V.int)
  | .raw w => v = w
  | .deep t => Ot K F H v t ∧ t.fp.Nodup
  | .ownD ks xs => ∃ a vs, v = .ref a ∧ F a = none ∧ H a = some (.dK (ks.zip vs)) ∧ ks.length = xs.length ∧ RpA K F vs xs
/-- is no thing that the frame owns -/
def L.pl : L → Bool
  | .own _ => false
  | .deep _ => false
  | .ownD _ _ => false
  | _ => true
/-- the addresses that a slot's thing owns -/
def LFp (v : V) : L → Addr → Prop
  | .own _, a => v = .ref a
  | .deep t, a => a ∈ t.fp
  | .ownD _ _, a => v = .ref a
  | _, _ => False
def SFp (σ : St) (ρ : En) (i : Nat) (a : Addr) : Prop := ∃ l v, ρ[i]? = some (some l) ∧ σ[i]? = some (some v) ∧ LFp v l a
/-- the heap without its tables -/
def ntb (H : Hp) : Hp := fun a => match H a with
  | some (.tbl _) => none
  | o => o
theorem ntb_at {H : Hp} {a : Addr} {o : HO} (h : H a = some o) (n : ∀ ps, o ≠ .tbl ps) : ntb H a = some o := by
  unfold ntb
  rw [h]
  cases o <;> first | rfl | exact absurd rfl (n _)
theorem ntb_of {H : Hp} {a : Addr} {o : HO} (h : ntb H a = some o) : H a = some o ∧ ∀ ps, o ≠ .tbl ps := by
  unfold ntb at h
  split at h
  · cases h
  · rename_i n
    exact ⟨h, fun ps z => n ps (by rw [h, z])⟩
theorem ntb_ex (H : Hp) : Ex (ntb H) H := fun _ _ h => (ntb_of h).1
theorem ntb_tf (H : Hp) : ∀ a ps, ntb H a ≠ some (.tbl ps) := fun _ ps h => (ntb_of h).2 ps rfl
theorem ex_ntb {F H : Hp} (e : Ex F H) (tf : ∀ a ps, F a ≠ some (.tbl ps)) : Ex F (ntb H) := fun a o h => ntb_at (e a o h) fun ps z => tf a ps (by rw [h, z])
theorem ntb_congr {H H' : Hp} {a : Addr} (e : H' a = H a) : ntb H' a = ntb H a := by unfold ntb; rw [e]
theorem ntb_ne {H : Hp} {a : Addr} (h : ntb H a ≠ none) : H a ≠ none := fun z => h (by unfold ntb; rw [z])
theorem ntb_none {H : Hp} {a : Addr} (h : H a = none) : ntb H a = none := by unfold ntb; rw [h]
theorem ntb_live {H : Hp} {a : Addr} {o : HO} (h : H a = some o) (n : ∀ ps, o ≠ .tbl ps) : ntb H a ≠ none := by rw [ntb_at h n]; exact fun z => nomatch z
theorem ntb_some {H : Hp} {a : Addr} (h : ntb H a ≠ none) : ∃ o, H a = some o ∧ ∀ ps, o ≠ .tbl ps := by
  cases e : ntb H a with
  | none => exact absurd e h
  | some o => exact ⟨o, ntb_of e⟩
/-- the tables of code objects that lambdas are made from: the maker's code object, its table, the lambda's name -/
class Tbs where
  T : List (Addr × Addr × Str)
structure St1 [Tbs] (B : Bs) (F H : Hp) : Prop where
  f0 : Ex B.F0 F
  fh : Ex F H
  h0 : ∀ a o, B.H0 a = some o → (∀ i, B.pin ≠ some (i, a)) → (∀ ps, o ≠ .tbl ps) → H a = some o
  th : ∀ a, B.H0 a ≠ none → ntb H a ≠ none
  nf : ∀ a, B.F0 a = none → B.H0 a ≠ none → F a = none
  tf : ∀ a ps, F a ≠ some (.tbl ps)
  tab : LamX.Tabs (Tbs.T.map (·.2)) H
/-- the frozen part holds no table; the tables are right -/
def Tfb [Tbs] (F H : Hp) : Prop := (∀ a ps, F a ≠ some (.tbl ps)) ∧ LamX.Tabs (Tbs.T.map (·.2)) H
theorem St1.tt [Tbs] {B : Bs} {F H : Hp} (s : St1 B F H) : Tfb F H := ⟨s.tf, s.tab⟩
structure EnvOk [Tbs] (B : Bs) (K : Fr) (F H : Hp) (σ : St) (ρ : En) : Prop where
  st : St1 B F H
  len : σ.length = ρ.length
  sl : ∀ (i : Nat) (l : L), ρ[i]? = some (some l) → ∃ v, σ[i]? = some (some v) ∧ SlotOk K F H v l
  sep : ∀ (i j : Nat) (a : Addr), SFp σ ρ i a → SFp σ ρ j a → i = j
  mine : ∀ (i : Nat) (a : Addr), SFp σ ρ i a → B.H0 a = none ∨ B.pin = some (i, a)
  pin : ∀ (i : Nat) (a : Addr), B.pin = some (i, a) → σ[i]? = some (some (.ref a)) ∧ (((∃ xs : List PyData, ρ[i]? = some (some (.own xs))) ∧ ∃ vs, B.H0 a = some (.lst vs)) ∨ ((∃ ks xs, ρ[i]? = some (some (.ownD ks xs))) ∧ ∃ kvs, B.H0 a = some (.dK kvs)))
/-- a value that an expression gives: data, a new list that nobody else holds, the script, any value, new things -/
inductive R where
  | d (x : PyData)
  | new (xs : List PyData)
  | scr (ns : List Int)
  | raw (v : V)
  | deep (t : OT)
  | newD (ks : List Key) (xs : List PyData)
def R.toD : R → Option PyData
  | .d x => some x
  | .new xs => some (.list xs)
  | .deep t => if t.isD = true then some t.data else none
  | _ => none
/-- addresses that nobody holds -/
def Free (B : Bs) (σ : St) (ρ : En) (as : List Addr) : Prop := ∀ a, a ∈ as → B.H0 a = none ∧ ∀ i, ¬ SFp σ ρ i a
def ROk (B : Bs) (K : Fr) (F H : Hp) (σ : St) (ρ : En) (v : V) : R → Prop
  | .d x => Rp K F v x
  | .new xs => ∃ a vs, v = .ref a ∧ F a = none ∧ H a = some (.lst vs) ∧ RpA K F vs xs ∧ B.H0 a = none ∧ ∀ i, ¬ SFp σ ρ i a
  | .scr ns => ∃ a, v = .ref a ∧ SqL K F a (ns.map V.int)
  | .raw w => v = w
  | .deep t => Ot K F H v t ∧ t.fp.Nodup ∧ Free B σ ρ t.fp
  | .newD ks xs => ∃ a vs, v = .ref a ∧ F a = none ∧ H a = some (.dK (ks.zip vs)) ∧ ks.length = xs.length ∧ RpA K F vs xs ∧ B.H0 a = none ∧ ∀ i, ¬ SFp σ ρ i a

/-- no table, no code object -/
def NT (o : HO) : Prop := (∀ ps, o ≠ .tbl ps) ∧ ∀ φ, o ≠ .ext φ
theorem nt_lst (xs : List V) : NT (.lst xs) := ⟨(fun _ z => by cases z), (fun _ z => by cases z)⟩
theorem nt_tup (xs : List V) : NT (.tup xs) := ⟨(fun _ z => by cases z), (fun _ z => by cases z)⟩
theorem nt_dK (xs : List (Key × V)) : NT (.dK xs) := ⟨(fun _ z => by cases z), (fun _ z => by cases z)⟩
theorem tabs_keep {T : List (Addr × Str)} {H H' : Hp} (t : LamX.Tabs T H) (k1 : ∀ P ps, H P = some (.tbl ps) → H' P = some (.tbl ps)) (k2 : ∀ c φ, H c = some (.ext φ) → H' c = some (.ext φ)) : LamX.Tabs T H' := fun p hp => by
  obtain ⟨ps, h1, h2, h3⟩ := t p hp
  refine ⟨ps, k1 _ _ h1, h2, fun pos cv hc => ?_⟩
  obtain ⟨c, e1, e2⟩ := h3 pos cv hc
  exact ⟨c, e1, k2 _ _ e2⟩
theorem tabs_upd {T : List (Addr × Str)} {H : Hp} {a : Addr} {o : HO} (t : LamX.Tabs T H) (n : ∀ u, H a = some u → NT u) : LamX.Tabs T (upd H a o) :=
  tabs_keep t (fun P ps e => (upd_ne fun z => by subst z; exact (n _ e).1 ps rfl).trans e) fun c φ e => (upd_ne fun z => by subst z; exact (n _ e).2 φ rfl).trans e
mutual
theorem Ot.nt {K : Fr} {F H : Hp} : ∀ {t : OT} {v : V}, Ot K F H v t → ∀ {a : Addr}, a ∈ t.fp → ∀ o, H a = some o → NT o
  | .d _, _, .d _, _, ha => nomatch ha
  | .lst _ _, _, .lst h1 h2 h3, _, ha => (List.mem_cons.mp ha).elim (fun e o ho => by subst e; rw [h2] at ho; cases ho; exact nt_lst _) fun h => OtA.nt h3 h
  | .tup _ _, _, .tup h1 h2 h3, _, ha => (List.mem_cons.mp ha).elim (fun e o ho => by subst e; rw [h2] at ho; cases ho; exact nt_tup _) fun h => OtA.nt h3 h
  | .dct _ _ _, _, .dct h1 h2 _ h3, _, ha => (List.mem_cons.mp ha).elim (fun e o ho => by subst e; rw [h2] at ho; cases ho; exact nt_dK _) fun h => OtA.nt h3 h
theorem OtA.nt {K : Fr} {F H : Hp} : ∀ {ts : List OT} {vs : List V}, OtA K F H vs ts → ∀ {a : Addr}, a ∈ fps ts → ∀ o, H a = some o → NT o
  | [], _, .nil, _, ha => nomatch ha
  | _ :: _, _, .cons h r, _, ha => (List.mem_append.mp ha).elim (fun k => Ot.nt h k) fun k => OtA.nt r k
end
theorem SlotOk.nt {K : Fr} {F H : Hp} {v : V} {l : L} (s : SlotOk K F H v l) {a : Addr} (h : LFp v l a) : ∀ o, H a = some o → NT o := fun o ho => by
  cases l with
  | own xs =>
    obtain ⟨b, vs, e, h1, h2, h3⟩ := s
    cases (show v = .ref a from h)
    cases e
    rw [h2] at ho; cases ho; exact nt_lst _
  | deep t => exact s.1.nt h o ho
  | ownD ks xs =>
    obtain ⟨b, vs, e, h1, h2, hl, h3⟩ := s
    cases (show v = .ref a from h)
    cases e
    rw [h2] at ho; cases ho; exact nt_dK _
  | _ => exact h.elim
variable [Tbs]
section
variable {B : Bs} {K : Fr} {F F' H H' : Hp} {σ σ' : St} {ρ ρ' : En} {v : V}
theorem SlotOk.mono {l : L} (ef : Ex F F') (eh : ∀ a, LFp v l a → F' a = none ∧ H' a = H a) (s : SlotOk K F H v l) : SlotOk K F' H' v l := by
  cases l with
  | d x => exact Rp.mono ef s
  | own xs =>
    obtain ⟨a, vs, e, h1, h2, h3⟩ := s
    obtain ⟨k1, k2⟩ := eh a e
    exact ⟨a, vs, e, k1, k2.trans h2, h3.mono ef⟩
  | scr ns =>
    obtain ⟨a, e, h⟩ := s
    exact ⟨a, e, ef.sl h⟩
  | raw w => exact s
  | deep t => exact ⟨s.1.mono ef eh, s.2⟩
  | ownD ks xs =>
    obtain ⟨a, vs, e, h1, h2, hl, h3⟩ := s
    obtain ⟨k1, k2⟩ := eh a e
    exact ⟨a, vs, e, k1, k2.trans h2, hl, h3.mono ef⟩
theorem SlotOk.live {l : L} (s : SlotOk K F H v l) {a : Addr} (h : LFp v l a) : F a = none ∧ ∃ o, H a = some o := by
  cases l with
  | own xs =>
    obtain ⟨b, vs, e, h1, h2, h3⟩ := s
    cases (show v = .ref a from h)
    cases e
    exact ⟨h1, _, h2⟩
  | deep t => exact s.1.live h
  | ownD ks xs =>
    obtain ⟨b, vs, e, h1, h2, hl, h3⟩ := s
    cases (show v = .ref a from h)
    cases e
    exact ⟨h1, _, h2⟩
  | _ => exact h.elim
theorem EnvOk.fh (E : EnvOk B K F H σ ρ) : Ex F H := E.st.fh
theorem EnvOk.own_at (E : EnvOk B K F H σ ρ) {i : Nat} {xs : List PyData} (h : ρ[i]? = some (some (.own xs))) : ∃ a vs, σ[i]? = some (some (.ref a)) ∧ F a = none ∧ H a = some (.lst vs) ∧ RpA K F vs xs := by
  obtain ⟨v, e, a, vs, rfl, h1, h2, h3⟩ := E.sl i _ h
  exact ⟨a, vs, e, h1, h2, h3⟩
theorem EnvOk.ownD_at (E : EnvOk B K F H σ ρ) {i : Nat} {ks : List Key} {xs : List PyData} (h : ρ[i]? = some (some (.ownD ks xs))) : ∃ a vs, σ[i]? = some (some (.ref a)) ∧ F a = none ∧ H a = some (.dK (ks.zip vs)) ∧ ks.length = xs.length ∧ RpA K F vs xs := by
  obtain ⟨v, e, a, vs, rfl, h1, h2, h3, h4⟩ := E.sl i _ h
  exact ⟨a, vs, e, h1, h2, h3, h4⟩
theorem EnvOk.live (E : EnvOk B K F H σ ρ) {i : Nat} {a : Addr} (h : SFp σ ρ i a) : F a = none ∧ ∃ o, H a = some o := by
  obtain ⟨l, v, h1, h2, h3⟩ := h
  obtain ⟨v', h4, s⟩ := E.sl i l h1
  rw [h2] at h4
  cases h4
  exact s.live h3
theorem EnvOk.sfp_own (E : EnvOk B K F H σ ρ) {i : Nat} {xs : List PyData} {a : Addr} (h : ρ[i]? = some (some (.own xs))) (ha : σ[i]? = some (some (.ref a))) : SFp σ ρ i a := ⟨_, _, h, ha, rfl⟩
theorem EnvOk.sfp_ownD (E : EnvOk B K F H σ ρ) {i : Nat} {ks : List Key} {xs : List PyData} {a : Addr} (h : ρ[i]? = some (some (.ownD ks xs))) (ha : σ[i]? = some (some (.ref a))) : SFp σ ρ i a := ⟨_, _, h, ha, rfl⟩
theorem EnvOk.nt (E : EnvOk B K F H σ ρ) {i : Nat} {a : Addr} (h : SFp σ ρ i a) : ∀ o, H a = some o → NT o := by
  obtain ⟨l, v, h1, h2, h3⟩ := h
  obtain ⟨v', h4, s⟩ := E.sl i l h1
  rw [h2] at h4
  cases h4
  exact s.nt h3
/-- a fresh place is nobody's -/
theorem EnvOk.fr (E : EnvOk B K F H σ ρ) {p : Addr} (hp : H p = none) (i : Nat) : ¬ SFp σ ρ i p := fun h => by
  obtain ⟨_, o, e⟩ := E.live h
  rw [hp] at e
  cases e
/-- the slots stay, where the own things stay -/
theorem EnvOk.sl_mono (E : EnvOk B K F H σ ρ) (ef : Ex F F') (eh : ∀ i a, SFp σ ρ i a → F' a = none ∧ H' a = H a) : ∀ (i : Nat) (l : L), ρ[i]? = some (some l) → ∃ v, σ[i]? = some (some v) ∧ SlotOk K F' H' v l := fun i l e => by
  obtain ⟨v, e1, s⟩ := E.sl i l e
  exact ⟨v, e1, s.mono ef fun a ha => eh i a ⟨l, v, e, e1, ha⟩⟩
/-- a new object that is frozen at once -/
theorem EnvOk.alloc (E : EnvOk B K F H σ ρ) {p : Addr} {o : HO} (hp : H p = none) (nt : ∀ ps, o ≠ HO.tbl ps := by intro _ z; cases z) : EnvOk B K (upd F p o) (upd H p o) σ ρ ∧ Ex F (upd F p o) := by
  have hF : F p = none := E.fh.free hp
  have ef : Ex F (upd F p o) := Ex.new hF
  have h0p : B.H0 p = none := by
    cases q : B.H0 p with
    | none => rfl
    | some u => exact absurd hp (ntb_ne (E.st.th p (by rw [q]; exact fun z => nomatch z)))
  refine ⟨⟨⟨E.st.f0.trans ef, fun a u e => ?_, fun a u e n m => ?_, fun a h => ?_, fun a h1 h2 => ?_, fun a ps e => ?_, tabs_upd E.st.tab (fun u e => by rw [hp] at e; cases e)⟩, E.len, E.sl_mono ef fun i a h => ?_, E.sep, E.mine, E.pin⟩, ef⟩
  · by_cases ha : a = p
    · subst ha; rw [upd_same] at e ⊢; exact e
    · rw [upd_ne ha] at e ⊢; exact E.fh a u e
  · have ha : a ≠ p := fun z => by rw [z, h0p] at e; cases e
    rw [upd_ne ha]
    exact E.st.h0 a u e n m
  · have ha : a ≠ p := fun z => h (by rw [z]; exact h0p)
    rw [ntb_congr (upd_ne ha)]; exact E.st.th a h
  · have ha : a ≠ p := fun z => h2 (by rw [z]; exact h0p)
    rw [upd_ne ha]
    exact E.st.nf a h1 h2
  · by_cases ha : a = p
    · subst ha; rw [upd_same] at e; exact nt ps (Option.some.inj e)
    · rw [upd_ne ha] at e; exact E.st.tf a ps e
  · have ha : a ≠ p := fun z => E.fr hp i (by rw [← z]; exact h)
    rw [upd_ne ha, upd_ne ha]
    exact ⟨(E.live h).1, rfl⟩
/-- a new object that stays out of F -/
theorem EnvOk.allocO (E : EnvOk B K F H σ ρ) {p : Addr} {o : HO} (hp : H p = none) : EnvOk B K F (upd H p o) σ ρ := by
  have hF : F p = none := E.fh.free hp
  have h0p : B.H0 p = none := by
    cases q : B.H0 p with
    | none => rfl
    | some u => exact absurd hp (ntb_ne (E.st.th p (by rw [q]; exact fun z => nomatch z)))
  refine ⟨⟨E.st.f0, E.fh.trans (Ex.new hp), fun a u e n m => ?_, fun a h => ?_, E.st.nf, E.st.tf, tabs_upd E.st.tab (fun u e => by rw [hp] at e; cases e)⟩, E.len, E.sl_mono (Ex.refl F) fun i a h => ?_, E.sep, E.mine, E.pin⟩
  · have ha : a ≠ p := fun z => by rw [z, h0p] at e; cases e
    rw [upd_ne ha]
    exact E.st.h0 a u e n m
  · have ha : a ≠ p := fun z => h (by rw [z]; exact h0p)
    rw [ntb_congr (upd_ne ha)]; exact E.st.th a h
  · have ha : a ≠ p := fun z => E.fr hp i (by rw [← z]; exact h)
    exact ⟨(E.live h).1, upd_ne ha⟩
theorem EnvOk.h0p (E : EnvOk B K F H σ ρ) {p : Addr} (hp : H p = none) : B.H0 p = none := by
  cases q : B.H0 p with
  | none => rfl
  | some u => exact absurd hp (ntb_ne (E.st.th p (by rw [q]; exact fun z => nomatch z)))
/-- what is no more than a table is nobody's -/
theorem EnvOk.fr2 (E : EnvOk B K F H σ ρ) (a : Addr) (h : ntb H a = none) : B.H0 a = none ∧ ∀ i, ¬ SFp σ ρ i a := by
  constructor
  · cases q : B.H0 a with
    | none => rfl
    | some u => exact absurd h (E.st.th a (by rw [q]; exact fun z => nomatch z))
  · intro i z
    obtain ⟨_, o, e⟩ := E.live z
    exact absurd h (ntb_live e (E.nt z o e).1)
theorem set_cases {α : Type} {l : List (Option α)} {i j : Nat} {x : Option α} {y : α} (h : (l.set i x)[j]? = some (some y)) : (j = i ∧ i < l.length ∧ x = some y) ∨ (j ≠ i ∧ l[j]? = some (some y)) := by
  by_cases c : j = i
  · subst c
    have hj := (List.getElem?_eq_some_iff.mp h).1
    rw [List.length_set] at hj
    rw [List.getElem?_set_self hj] at h
    exact .inl ⟨rfl, hj, Option.some.inj h⟩
  · rw [List.getElem?_set_ne (Ne.symm c)] at h
    exact .inr ⟨c, h⟩
/-- the own thing of slot i is another one: its place in the heap and the new ones beneath it -/
theorem EnvOk.put (E : EnvOk B K F H σ ρ) {i : Nat} {l l' : L} {v : V} (h : ρ[i]? = some (some l)) (hv : σ[i]? = some (some v)) (st : St1 B F H') (s : SlotOk K F H' v l') (keep : ∀ j a, j ≠ i → SFp σ ρ j a → H' a = H a)
    (nw : ∀ a, LFp v l' a → LFp v l a ∨ (B.H0 a = none ∧ ∀ j, ¬ SFp σ ρ j a)) (hp : (∃ xs ys, l = .own ys ∧ l' = .own xs) ∨ (∃ ks xs js ys, l = .ownD js ys ∧ l' = .ownD ks xs) ∨ ∀ a, B.pin ≠ some (i, a)) :
    EnvOk B K F H' σ (ρ.set i (some l')) := by
  have hi : i < ρ.length := (List.getElem?_eq_some_iff.mp h).1
  have fpo : ∀ j a, SFp σ (ρ.set i (some l')) j a → SFp σ ρ j a ∨ (j = i ∧ B.H0 a = none ∧ ∀ j, ¬ SFp σ ρ j a) := fun j a ⟨m, w, e1, e2, e3⟩ => by
    rcases set_cases e1 with ⟨rfl, _, e⟩ | ⟨n, e⟩
    · cases e
      rw [hv] at e2
      cases e2
      rcases nw a e3 with k | k
      · exact .inl ⟨l, v, h, hv, k⟩
      · exact .inr ⟨rfl, k⟩
    · exact .inl ⟨m, w, e, e2, e3⟩
  refine ⟨st, by rw [List.length_set]; exact E.len, fun j m e => ?_, fun j k a e1 e2 => ?_, fun j a e => ?_, fun j a e => ?_⟩
  · rcases set_cases e with ⟨rfl, _, e'⟩ | ⟨n, e'⟩
    · cases e'; exact ⟨v, hv, s⟩
    · obtain ⟨w, e1, s'⟩ := E.sl j m e'
      exact ⟨w, e1, s'.mono (Ex.refl F) fun a ha => ⟨(E.live ⟨m, w, e', e1, ha⟩).1, keep j a n ⟨m, w, e', e1, ha⟩⟩⟩
  · rcases fpo j a e1 with k1 | ⟨k1, _, n1⟩ <;> rcases fpo k a e2 with k2 | ⟨k2, _, n2⟩
    · exact E.sep j k a k1 k2
    · exact absurd k1 (n2 _)
    · exact absurd k2 (n1 _)
    · exact k1.trans k2.symm
  · rcases fpo j a e with k | ⟨_, k, _⟩
    · exact E.mine j a k
    · exact .inl k
  · obtain ⟨q1, q2⟩ := E.pin j a e
    refine ⟨q1, ?_⟩
    by_cases hj : j = i
    · subst hj
      rw [List.getElem?_set_self hi]
      rw [h] at q2
      rcases hp with ⟨xs, ys, rfl, rfl⟩ | ⟨ks, ts, js, ys, rfl, rfl⟩ | hp
      · rcases q2 with ⟨_, q2⟩ | ⟨⟨_, _, q2⟩, _⟩
        · exact .inl ⟨⟨xs, rfl⟩, q2⟩
        · cases q2
      · rcases q2 with ⟨⟨_, q2⟩, _⟩ | ⟨_, q2⟩
        · cases q2
        · exact .inr ⟨⟨ks, ts, rfl⟩, q2⟩
      · exact absurd e (hp a)
    · rw [List.getElem?_set_ne (Ne.symm hj)]; exact q2
/-- one own object is written -/
theorem EnvOk.st_write (E : EnvOk B K F H σ ρ) {i : Nat} {a : Addr} {o : HO} (h : SFp σ ρ i a) (nt : ∀ ps, o ≠ HO.tbl ps := by intro _ z; cases z) : St1 B F (upd H a o) := by
  obtain ⟨k1, u0, k2⟩ := E.live h
  refine ⟨E.st.f0, fun b u e => ?_, fun b u e n m => ?_, fun b hb => ?_, E.st.nf, E.st.tf, tabs_upd E.st.tab (E.nt h)⟩
  · have hb : b ≠ a := fun z => by rw [z, k1] at e; cases e
    rw [upd_ne hb]; exact E.fh b u e
  · have hb : b ≠ a := fun z => by
      subst z
      rcases E.mine i b h with z | z
      · rw [z] at e; cases e
      · exact n i z
    rw [upd_ne hb]; exact E.st.h0 b u e n m
  · by_cases z : b = a
    · subst z; exact ntb_live upd_same nt
    · rw [ntb_congr (upd_ne z)]; exact E.st.th b hb
/-- the own list of slot i is written -/
theorem EnvOk.write (E : EnvOk B K F H σ ρ) {i : Nat} {xs ys : List PyData} {a : Addr} {ws : List V} (h : ρ[i]? = some (some (.own xs))) (ha : σ[i]? = some (some (.ref a))) (r : RpA K F ws ys) :
    EnvOk B K F (upd H a (.lst ws)) σ (ρ.set i (some (.own ys))) := by
  have fa := E.sfp_own h ha
  have k1 := (E.live fa).1
  refine E.put h ha (E.st_write fa) ⟨a, ws, rfl, k1, upd_same, r⟩ (fun j b n hb => ?_) (fun b hb => .inl hb) (.inl ⟨ys, xs, rfl, rfl⟩)
  exact upd_ne fun z => by subst z; exact n (E.sep j i b hb fa)
/-- the own dict of slot i is written -/
theorem EnvOk.writeD (E : EnvOk B K F H σ ρ) {i : Nat} {ks js : List Key} {xs ys : List PyData} {a : Addr} {ws : List V} (h : ρ[i]? = some (some (.ownD ks xs))) (ha : σ[i]? = some (some (.ref a))) (hl : js.length = ys.length) (r : RpA K F ws ys) :
    EnvOk B K F (upd H a (.dK (js.zip ws))) σ (ρ.set i (some (.ownD js ys))) := by
  have fa := E.sfp_ownD h ha
  have k1 := (E.live fa).1
  refine E.put h ha (E.st_write fa) ⟨a, ws, rfl, k1, upd_same, hl, r⟩ (fun j b n hb => ?_) (fun b hb => .inl hb) (.inr (.inl ⟨js, ys, ks, xs, rfl, rfl⟩))
  exact upd_ne fun z => by subst z; exact n (E.sep j i b hb fa)
/-- a slot is stored: what is no own thing -/
theorem EnvOk.setD (E : EnvOk B K F H σ ρ) {i : Nat} {l : L} (hv : SlotOk K F H v l) (hl : l.pl = true) (hp : ∀ a, B.pin ≠ some (i, a)) : EnvOk B K F H (σ.set i (some v)) (ρ.set i (some l)) := by
  have fpo : ∀ j a, SFp (σ.set i (some v)) (ρ.set i (some l)) j a → SFp σ ρ j a := fun j a ⟨m, w, e1, e2, e3⟩ => by
    rcases set_cases e1 with ⟨rfl, _, e⟩ | ⟨n, e⟩
    · cases e
      cases l <;> first | exact (show False from e3).elim | cases hl
    · rw [List.getElem?_set_ne (Ne.symm n)] at e2
      exact ⟨m, w, e, e2, e3⟩
  refine ⟨E.st, by rw [List.length_set, List.length_set]; exact E.len, fun j l' e => ?_, fun j k a e1 e2 => E.sep j k a (fpo _ _ e1) (fpo _ _ e2), fun j a e => E.mine j a (fpo _ _ e), fun j b e => ?_⟩
  · rcases set_cases e with ⟨rfl, hj, e'⟩ | ⟨n, e'⟩
    · cases e'
      exact ⟨v, List.getElem?_set_self (by rw [E.len]; exact hj), hv⟩
    · rw [List.getElem?_set_ne (Ne.symm n)]
      exact E.sl j l' e'
  · have hj : j ≠ i := fun z => by subst z; exact hp b e
    rw [List.getElem?_set_ne (Ne.symm hj), List.getElem?_set_ne (Ne.symm hj)]
    exact E.pin j b e
/-- a slot takes new own things -/
theorem EnvOk.setN (E : EnvOk B K F H σ ρ) {i : Nat} {l : L} (hv : SlotOk K F H v l) (hf : ∀ a, LFp v l a → B.H0 a = none ∧ ∀ j, ¬ SFp σ ρ j a) (hp : ∀ a, B.pin ≠ some (i, a)) : EnvOk B K F H (σ.set i (some v)) (ρ.set i (some l)) := by
  have fpo : ∀ j a, SFp (σ.set i (some v)) (ρ.set i (some l)) j a → (j = i ∧ LFp v l a) ∨ (j ≠ i ∧ SFp σ ρ j a) := fun j a ⟨m, w, e1, e2, e3⟩ => by
    rcases set_cases e1 with ⟨rfl, hj, e⟩ | ⟨n, e⟩
    · cases e
      rw [List.getElem?_set_self (by rw [E.len]; exact hj)] at e2
      cases e2
      exact .inl ⟨rfl, e3⟩
    · rw [List.getElem?_set_ne (Ne.symm n)] at e2
      exact .inr ⟨n, m, w, e, e2, e3⟩
  refine ⟨E.st, by rw [List.length_set, List.length_set]; exact E.len, fun j l' e => ?_, fun j k a e1 e2 => ?_, fun j a e => ?_, fun j b e => ?_⟩
  · rcases set_cases e with ⟨rfl, hj, e'⟩ | ⟨n, e'⟩
    · cases e'
      exact ⟨v, List.getElem?_set_self (by rw [E.len]; exact hj), hv⟩
    · rw [List.getElem?_set_ne (Ne.symm n)]
      exact E.sl j l' e'
  · rcases fpo j a e1 with ⟨k1, q1⟩ | ⟨k1, q1⟩ <;> rcases fpo k a e2 with ⟨k2, q2⟩ | ⟨k2, q2⟩
    · exact k1.trans k2.symm
    · exact absurd q2 ((hf a q1).2 _)
    · exact absurd q1 ((hf a q2).2 _)
    · exact E.sep j k a q1 q2
  · rcases fpo j a e with ⟨_, q⟩ | ⟨_, q⟩
    · exact .inl (hf a q).1
    · exact E.mine j a q
  · have hj : j ≠ i := fun z => by subst z; exact hp b e
    rw [List.getElem?_set_ne (Ne.symm hj), List.getElem?_set_ne (Ne.symm hj)]
    exact E.pin j b e
theorem EnvOk.setO (E : EnvOk B K F H σ ρ) {i : Nat} {xs : List PyData} (hv : ROk B K F H σ ρ v (.new xs)) (hp : ∀ a, B.pin ≠ some (i, a)) : EnvOk B K F H (σ.set i (some v)) (ρ.set i (some (.own xs))) := by
  obtain ⟨a, vs, rfl, k1, k2, k3, k4, k5⟩ := hv
  exact E.setN ⟨a, vs, rfl, k1, k2, k3⟩ (fun b hb => by cases (show V.ref a = V.ref b from hb); exact ⟨k4, k5⟩) hp
theorem EnvOk.setND (E : EnvOk B K F H σ ρ) {i : Nat} {ks : List Key} {xs : List PyData} (hv : ROk B K F H σ ρ v (.newD ks xs)) (hp : ∀ a, B.pin ≠ some (i, a)) : EnvOk B K F H (σ.set i (some v)) (ρ.set i (some (.ownD ks xs))) := by
  obtain ⟨a, vs, rfl, k1, k2, hl, k3, k4, k5⟩ := hv
  exact E.setN ⟨a, vs, rfl, k1, k2, hl, k3⟩ (fun b hb => by cases (show V.ref a = V.ref b from hb); exact ⟨k4, k5⟩) hp
theorem EnvOk.setT (E : EnvOk B K F H σ ρ) {i : Nat} {t : OT} (hv : ROk B K F H σ ρ v (.deep t)) (hp : ∀ a, B.pin ≠ some (i, a)) : EnvOk B K F H (σ.set i (some v)) (ρ.set i (some (.deep t))) :=
  E.setN ⟨hv.1, hv.2.1⟩ (fun b hb => hv.2.2 b hb) hp
/-- a slot less known -/
theorem EnvOk.weak (E : EnvOk B K F H σ ρ) (hl : ρ'.length = ρ.length) (w : ∀ (i : Nat) (l : L), ρ'[i]? = some (some l) → ρ[i]? = some (some l)) (hp : ∀ (i : Nat) (a : Addr), B.pin = some (i, a) → ρ'[i]? = ρ[i]?) : EnvOk B K F H σ ρ' :=
  have fpo : ∀ j a, SFp σ ρ' j a → SFp σ ρ j a := fun j a ⟨m, u, e1, e2, e3⟩ => ⟨m, u, w _ _ e1, e2, e3⟩
  ⟨E.st, E.len.trans hl.symm, fun i l e => E.sl i l (w i l e), fun i j a e1 e2 => E.sep i j a (fpo _ _ e1) (fpo _ _ e2), fun i a e => E.mine i a (fpo _ _ e), fun i a e => by rw [hp i a e]; exact E.pin i a e⟩
theorem set_none {ρ : En} {i j : Nat} {l : L} (h : (ρ.set i none)[j]? = some (some l)) : j ≠ i ∧ ρ[j]? = some (some l) := by
  rcases set_cases h with ⟨_, _, e⟩ | q
  · cases e
  · exact q
/-- a slot forgotten -/
theorem EnvOk.forget (E : EnvOk B K F H σ ρ) {i : Nat} {o : Option V} (hp : ∀ a, B.pin ≠ some (i, a)) : EnvOk B K F H (σ.set i o) (ρ.set i none) := by
  have fpo : ∀ j a, SFp (σ.set i o) (ρ.set i none) j a → SFp σ ρ j a := fun j a ⟨m, u, e1, e2, e3⟩ => by
    obtain ⟨n, q⟩ := set_none e1
    rw [List.getElem?_set_ne (Ne.symm n)] at e2
    exact ⟨m, u, q, e2, e3⟩
  refine ⟨E.st, by rw [List.length_set, List.length_set]; exact E.len, fun j l' e => ?_, fun j k a e1 e2 => E.sep j k a (fpo _ _ e1) (fpo _ _ e2), fun j a e => E.mine j a (fpo _ _ e), fun j b e => ?_⟩
  · obtain ⟨n, q⟩ := set_none e
    rw [List.getElem?_set_ne (Ne.symm n)]
    exact E.sl j l' q
  · have hj : j ≠ i := fun z => by subst z; exact hp b e
    rw [List.getElem?_set_ne (Ne.symm hj), List.getElem?_set_ne (Ne.symm hj)]
    exact E.pin j b e
/-- the heap goes on, all that was there stays -/
structure Stp [Tbs] (F H F' H' : Hp) : Prop where
  ef : Ex F F'
  fh : Ex F' H'
  eh : LamX.ExtN H H'
  nf : ∀ a, F a = none → ntb H a ≠ none → F' a = none
  tf : ∀ a ps, F' a ≠ some (.tbl ps)
  tab : LamX.Tabs (Tbs.T.map (·.2)) H'
theorem Stp.th {F H F' H' : Hp} (s : Stp F H F' H') (a : Addr) (h : ntb H a ≠ none) : ntb H' a ≠ none := by
  obtain ⟨o, e, n⟩ := ntb_some h
  exact ntb_live (s.eh a o e n) n
theorem EnvOk.step (E : EnvOk B K F H σ ρ) (s : Stp F H F' H') : EnvOk B K F' H' σ ρ := by
  refine ⟨⟨E.st.f0.trans s.ef, s.fh, fun a u e n m => s.eh a u (E.st.h0 a u e n m) m, fun a h => s.th a (E.st.th a h), fun a h1 h2 => s.nf a (E.st.nf a h1 h2) (E.st.th a h2), s.tf, s.tab⟩, E.len, E.sl_mono s.ef fun i a h => ?_, E.sep, E.mine, E.pin⟩
  obtain ⟨k1, o, k2⟩ := E.live h
  exact ⟨s.nf a k1 (ntb_live k2 (E.nt h _ k2).1), (s.eh a _ k2 (E.nt h _ k2).1).trans k2.symm⟩
/-- free objects are frozen -/
def frz (F H : Hp) (as : List Addr) : Hp := fun a => if a ∈ as then H a else F a
theorem EnvOk.freeze (E : EnvOk B K F H σ ρ) {as : List Addr} (hf : Free B σ ρ as) (h0 : ∀ a, a ∈ as → F a = none) (hn : ∀ a, a ∈ as → ∀ o, H a = some o → NT o) : EnvOk B K (frz F H as) H σ ρ ∧ Ex F (frz F H as) := by
  have ef : Ex F (frz F H as) := fun a u e => by
    unfold frz
    rw [if_neg fun z => by rw [h0 a z] at e; cases e]
    exact e
  refine ⟨⟨⟨E.st.f0.trans ef, fun b u e => ?_, E.st.h0, E.st.th, fun b h1 h2 => ?_, fun b ps e => ?_, E.st.tab⟩, E.len, E.sl_mono ef fun i a h => ⟨?_, rfl⟩, E.sep, E.mine, E.pin⟩, ef⟩
  · unfold frz at e
    split at e
    · exact e
    · exact E.fh b u e
  · unfold frz
    rw [if_neg fun z => h2 (hf b z).1]
    exact E.st.nf b h1 h2
  · unfold frz at e
    split at e
    · rename_i hb; exact (hn b hb _ e).1 ps rfl
    · exact E.st.tf b ps e
  · unfold frz
    rw [if_neg fun z => (hf a z).2 i h]
    exact (E.live h).1
/-- a value is data: new things are frozen -/
theorem EnvOk.asD (E : EnvOk B K F H σ ρ) {r : R} {x : PyData} (hv : ROk B K F H σ ρ v r) (hx : r.toD = some x) : ∃ F', EnvOk B K F' H σ ρ ∧ Ex F F' ∧ Rp K F' v x := by
  cases r with
  | d y => cases hx; exact ⟨F, E, Ex.refl F, hv⟩
  | new xs =>
    cases hx
    obtain ⟨a, vs, rfl, k1, k2, k3, k4, k5⟩ := hv
    obtain ⟨E', ef⟩ := E.freeze (as := [a]) (fun b hb => by rw [List.mem_singleton.mp hb]; exact ⟨k4, k5⟩) (fun b hb => by rw [List.mem_singleton.mp hb]; exact k1) (fun b hb o ho => by rw [List.mem_singleton.mp hb, k2] at ho; cases ho; exact nt_lst _)
    refine ⟨_, E', ef, .lst ?_ (k3.mono ef)⟩
    unfold frz
    rw [if_pos List.mem_cons_self]
    exact k2
  | scr ns => cases hx
  | raw w => cases hx
  | newD ks xs => cases hx
  | deep t =>
    obtain ⟨k1, k2, k3⟩ := hv
    unfold R.toD at hx
    by_cases c : t.isD = true
    · simp only [c, if_true] at hx
      cases hx
      obtain ⟨E', ef⟩ := E.freeze k3 (fun a ha => (k1.live ha).1) (fun a ha => k1.nt ha)
      exact ⟨_, E', ef, k1.rp ef c fun a ha => by unfold frz; rw [if_pos ha]⟩
    · simp only [c] at hx
      cases hx
end
end SV

set_option maxHeartbeats 1000000
namespace SV
open PySem PySem.Spec L2
open Evl (Ex)
variable [Tbs]

/-! ### judgements -/
inductive Ar where
  | d (x : PyData)
  | scr (ns : List Int)
  | raw (v : V)
  | own (j : Nat)
def R.toA : R → Option Ar
  | .d x => some (.d x)
  | .new xs => some (.d (.list xs))
  | .scr ns => some (.scr ns)
  | .raw v => some (.raw v)
  | .deep t => if t.isD = true then some (.d t.data) else none
  | .newD _ _ => none
def AOk (K : Fr) (F : Hp) (σ : St) (v : V) : Ar → Prop
  | .d x => Rp K F v x
  | .scr ns => ∃ a, v = .ref a ∧ SqL K F a (ns.map V.int)
  | .raw w => v = w
  | .own j => σ[j]? = some (some v)
inductive AOks (K : Fr) (F : Hp) (σ : St) : List V → List Ar → Prop
  | nil : AOks K F σ [] []
  | cons {v : V} {vs : List V} {a : Ar} {as : List Ar} : AOk K F σ v a → AOks K F σ vs as → AOks K F σ (v :: vs) (a :: as)
theorem AOk.mono {K : Fr} {F F' : Hp} {σ : St} {v : V} {a : Ar} (e : Ex F F') (h : AOk K F σ v a) : AOk K F' σ v a := by
  cases a with
  | d x => exact Rp.mono e h
  | scr ns => obtain ⟨a, q, s⟩ := h; exact ⟨a, q, e.sl s⟩
  | raw w => exact h
  | own j => exact h
def WE (B : Bs) (K : Fr) (te : TE) (ρ : En) (Q : R → En → Prop) : Prop := ∀ F H σ, EnvOk B K F H σ ρ → ∀ QQ : VK, (∀ v r F' H' ρ', EnvOk B K F' H' σ ρ' → Ex F F' → ROk B K F' H' σ ρ' v r → Q r ρ' → QQ v H') → te σ H QQ
def WD (B : Bs) (K : Fr) (te : TE) (ρ : En) (Q : PyData → En → Prop) : Prop := ∀ F H σ, EnvOk B K F H σ ρ → ∀ QQ : VK, (∀ v x F' H' ρ', EnvOk B K F' H' σ ρ' → Ex F F' → Rp K F' v x → Q x ρ' → QQ v H') → te σ H QQ
def WT (B : Bs) (K : Fr) (tt : TT) (ρ : En) (Q : Bool → En → Prop) : Prop := ∀ F H σ, EnvOk B K F H σ ρ → ∀ QQ : Bool → Hp → Prop, (∀ b F' H' ρ', EnvOk B K F' H' σ ρ' → Ex F F' → Q b ρ' → QQ b H') → tt σ H QQ
def WA (B : Bs) (K : Fr) (ta : TA) (ρ : En) (Q : List Ar → En → Prop) : Prop := ∀ F H σ, EnvOk B K F H σ ρ → ∀ QQ : List V → Hp → Prop, (∀ vs as F' H' ρ', EnvOk B K F' H' σ ρ' → Ex F F' → AOks K F' σ vs as → Q as ρ' → QQ vs H') → ta σ H QQ
def WO (B : Bs) (K : Fr) (to : TO) (ρ : En) (Q : Option Int → En → Prop) : Prop := ∀ F H σ, EnvOk B K F H σ ρ → ∀ QQ : Option Int → Hp → Prop, (∀ o F' H' ρ', EnvOk B K F' H' σ ρ' → Ex F F' → Q o ρ' → QQ o H') → to σ H QQ
structure Zs where
  nx : En → Prop
  rt : R → En → Prop
  bk : En → Prop := fun _ => False
  ct : En → Prop := fun _ => False
/-- another next; a loop's turn -/
abbrev Zs.sq (Z : Zs) (n : En → Prop) : Zs := ⟨n, Z.rt, Z.bk, Z.ct⟩
abbrev Zs.lp (Z : Zs) (n : En → Prop) : Zs := ⟨n, Z.rt, Z.nx, n⟩
structure ZOk (B : Bs) (K : Fr) (F0 : Hp) (Z : Zs) (D : Ends) : Prop where
  nx : ∀ F H σ ρ, EnvOk B K F H σ ρ → Ex F0 F → Z.nx ρ → D.nx σ H
  rt : ∀ F H σ ρ v r, EnvOk B K F H σ ρ → Ex F0 F → ROk B K F H σ ρ v r → Z.rt r ρ → D.rt v H
  bk : ∀ F H σ ρ, EnvOk B K F H σ ρ → Ex F0 F → Z.bk ρ → D.bk σ H
  ct : ∀ F H σ ρ, EnvOk B K F H σ ρ → Ex F0 F → Z.ct ρ → D.ct σ H
theorem ZOk.up {B : Bs} {K : Fr} {F0 F1 : Hp} {Z : Zs} {D : Ends} (ok : ZOk B K F0 Z D) (e : Ex F0 F1) : ZOk B K F1 Z D :=
  ⟨fun F H σ ρ E e' => ok.nx F H σ ρ E (e.trans e'), fun F H σ ρ v r E e' => ok.rt F H σ ρ v r E (e.trans e'), fun F H σ ρ E e' => ok.bk F H σ ρ E (e.trans e'), fun F H σ ρ E e' => ok.ct F H σ ρ E (e.trans e')⟩
def WS (B : Bs) (K : Fr) (ts : TS) (ρ : En) (Z : Zs) : Prop := ∀ F H σ, EnvOk B K F H σ ρ → ∀ D : Ends, ZOk B K F Z D → ts D σ H

section
variable {B : Bs} {K : Fr} {ρ : En} {ta tb te : TE} {tt : TT} {tr tl : TA} {Q : R → En → Prop} {QD : PyData → En → Prop} {QT : Bool → En → Prop} {QA : List Ar → En → Prop} {QO : Option Int → En → Prop}

/-! ### between them -/
theorem we_d (h : WD B K te ρ fun x ρ' => Q (.d x) ρ') : WE B K te ρ Q := fun F H σ E QQ k =>
  h F H σ E QQ fun v x F' H' ρ' E' ef r q => k v (.d x) F' H' ρ' E' ef r q
theorem wd_e (h : WE B K te ρ fun r ρ' => ∃ x, r.toD = some x ∧ QD x ρ') : WD B K te ρ QD := fun F H σ E QQ k =>
  h F H σ E QQ fun v r F' H' ρ' E' ef rv ⟨x, hx, q⟩ => by
    obtain ⟨F2, E2, e2, r2⟩ := E'.asD rv hx
    exact k v x F2 H' ρ' E2 (ef.trans e2) r2 q
theorem we_mono {Q' : R → En → Prop} (h : WE B K te ρ Q') (i : ∀ r ρ', Q' r ρ' → Q r ρ') : WE B K te ρ Q := fun F H σ E QQ k =>
  h F H σ E QQ fun v r F' H' ρ' E' ef rv q => k v r F' H' ρ' E' ef rv (i r ρ' q)
theorem wd_mono {Q' : PyData → En → Prop} (h : WD B K te ρ Q') (i : ∀ r ρ', Q' r ρ' → QD r ρ') : WD B K te ρ QD := fun F H σ E QQ k =>
  h F H σ E QQ fun v r F' H' ρ' E' ef rv q => k v r F' H' ρ' E' ef rv (i r ρ' q)

/-! ### names, constants -/
theorem wd_var {i : Nat} {x : PyData} (h : ρ[i]? = some (some (.d x))) (q : QD x ρ) : WD B K (tVar i) ρ QD := fun F H σ E QQ k => by
  obtain ⟨v, e, s⟩ := E.sl i _ h
  exact ⟨v, e, k v x F H ρ E (Ex.refl F) s q⟩
theorem we_scr {i : Nat} {ns : List Int} (h : ρ[i]? = some (some (.scr ns))) (q : Q (.scr ns) ρ) : WE B K (tVar i) ρ Q := fun F H σ E QQ k => by
  obtain ⟨v, e, s⟩ := E.sl i _ h
  exact ⟨v, e, k v (.scr ns) F H ρ E (Ex.refl F) s q⟩
theorem we_rawv {i : Nat} {w : V} (h : ρ[i]? = some (some (.raw w))) (q : Q (.raw w) ρ) : WE B K (tVar i) ρ Q := fun F H σ E QQ k => by
  obtain ⟨v, e, s⟩ := E.sl i _ h
  exact ⟨v, e, k v (.raw w) F H ρ E (Ex.refl F) s q⟩
theorem wd_int {i : Int} (q : QD (.int i) ρ) : WD B K (tC (.int i)) ρ QD := fun F H σ E QQ k => k _ _ F H ρ E (Ex.refl F) (.int i) q
theorem wd_bl {b : Bool} (q : QD (.bool b) ρ) : WD B K (tC (.bl b)) ρ QD := fun F H σ E QQ k => k _ _ F H ρ E (Ex.refl F) (.bl b) q
theorem wd_str {s : Str} (q : QD (.str s) ρ) : WD B K (tC (.str s)) ρ QD := fun F H σ E QQ k => k _ _ F H ρ E (Ex.refl F) (.str s) q
theorem wd_non (q : QD .none ρ) : WD B K (tC .non) ρ QD := fun F H σ E QQ k => k _ _ F H ρ E (Ex.refl F) .non q
theorem we_raw {w : V} (q : Q (.raw w) ρ) : WE B K (tC w) ρ Q := fun F H σ E QQ k => k _ (.raw w) F H ρ E (Ex.refl F) rfl q

/-! ### arguments -/
theorem wa_nil (q : QA [] ρ) : WA B K tNil ρ QA := fun F H σ E QQ k => k [] [] F H ρ E (Ex.refl F) .nil q
theorem wa_e (h : WE B K te ρ fun r ρ1 => ∃ a, r.toA = some a ∧ WA B K tr ρ1 fun as ρ2 => QA (a :: as) ρ2) : WA B K (tCons te tr) ρ QA := fun F H σ E QQ k =>
  h F H σ E _ fun v r F1 H1 ρ1 E1 e1 rv ⟨a, ha, q⟩ => by
    have key : ∃ F2, EnvOk B K F2 H1 σ ρ1 ∧ Ex F1 F2 ∧ AOk K F2 σ v a := by
      cases r with
      | d x => cases ha; exact ⟨F1, E1, Ex.refl F1, rv⟩
      | new xs => cases ha; exact E1.asD (r := .new xs) rv rfl
      | scr ns => cases ha; exact ⟨F1, E1, Ex.refl F1, rv⟩
      | raw w => cases ha; exact ⟨F1, E1, Ex.refl F1, rv⟩
      | newD ks xs => cases ha
      | deep t =>
        unfold R.toA at ha
        by_cases c : t.isD = true
        · simp only [c, if_true] at ha
          cases ha
          exact E1.asD (r := .deep t) rv (by unfold R.toD; simp only [c, if_true])
        · simp only [c] at ha
          cases ha
    obtain ⟨F2, E2, e2, av⟩ := key
    exact q F2 H1 σ E2 _ fun vs as F3 H3 ρ3 E3 e3 as' q3 => k (v :: vs) (a :: as) F3 H3 ρ3 E3 ((e1.trans e2).trans e3) (.cons (av.mono e3) as') q3
theorem wa_d (h : WD B K te ρ fun x ρ1 => WA B K tr ρ1 fun as ρ2 => QA (.d x :: as) ρ2) : WA B K (tCons te tr) ρ QA := fun F H σ E QQ k =>
  h F H σ E _ fun v x F1 H1 ρ1 E1 e1 rv q => q F1 H1 σ E1 _ fun vs as F3 H3 ρ3 E3 e3 as' q3 => k (v :: vs) (.d x :: as) F3 H3 ρ3 E3 (e1.trans e3) (.cons (AOk.mono (a := .d x) e3 rv) as') q3
theorem wa_own {j : Nat} {xs : List PyData} (h : ρ[j]? = some (some (.own xs))) (q : WA B K tr ρ fun as ρ2 => QA (.own j :: as) ρ2) : WA B K (tCons (tVar j) tr) ρ QA := fun F H σ E QQ k => by
  obtain ⟨a, vs, e, _⟩ := E.own_at h
  exact ⟨.ref a, e, q F H σ E _ fun vs as F3 H3 ρ3 E3 e3 as' q3 => k _ _ F3 H3 ρ3 E3 e3 (.cons (a := .own j) e as') q3⟩
/-- all arguments data -/
def WDs (B : Bs) (K : Fr) (ta : TA) (ρ : En) (Q : List PyData → En → Prop) : Prop := ∀ F H σ, EnvOk B K F H σ ρ → ∀ QQ : List V → Hp → Prop, (∀ vs xs F' H' ρ', EnvOk B K F' H' σ ρ' → Ex F F' → RpA K F' vs xs → Q xs ρ' → QQ vs H') → ta σ H QQ
theorem wds_nil {QL : List PyData → En → Prop} (q : QL [] ρ) : WDs B K tNil ρ QL := fun F H σ E QQ k => k [] [] F H ρ E (Ex.refl F) .nil q
theorem wds_cons {QL : List PyData → En → Prop} (h : WD B K te ρ fun x ρ1 => WDs B K tr ρ1 fun xs ρ2 => QL (x :: xs) ρ2) : WDs B K (tCons te tr) ρ QL := fun F H σ E QQ k =>
  h F H σ E _ fun v x F1 H1 ρ1 E1 e1 rv q => q F1 H1 σ E1 _ fun vs as F3 H3 ρ3 E3 e3 as' q3 => k (v :: vs) (x :: as) F3 H3 ρ3 E3 (e1.trans e3) (.cons (Rp.mono e3 rv) as') q3

/-! ### displays -/
def lim : Nat := 1000000
theorem lim_le {n : Nat} (h : n ≤ lim) : n ≤ sizeLine := Nat.le_trans h (by decide)
theorem lim_lt {n : Nat} (h : n < lim) : n < sizeLine := Nat.lt_of_lt_of_le h (by decide)
theorem we_lst (h : WDs B K tl ρ fun xs ρ' => xs.length ≤ lim ∧ Q (.new xs) ρ') : WE B K (tLst tl) ρ Q := fun F H σ E QQ k =>
  h F H σ E _ fun vs xs F1 H1 ρ1 E1 e1 rv ⟨hz, q⟩ => ⟨by rw [rv.length]; exact lim_le hz, fun p hp => by
    have E2 := E1.allocO (o := .lst vs) hp
    exact k _ (.new xs) F1 _ ρ1 E2 e1 ⟨p, vs, rfl, E1.fh.free hp, upd_same, rv, E1.h0p hp, fun i => E1.fr hp i⟩ q⟩
theorem wd_tup (h : WDs B K tl ρ fun xs ρ' => xs.length ≤ lim ∧ QD (.tuple xs) ρ') : WD B K (tTup tl) ρ QD := fun F H σ E QQ k =>
  h F H σ E _ fun vs xs F1 H1 ρ1 E1 e1 rv ⟨hz, q⟩ => ⟨by rw [rv.length]; exact lim_le hz, fun p hp => by
    obtain ⟨E2, e2⟩ := E1.alloc (o := .tup vs) hp
    exact k _ _ _ _ ρ1 E2 (e1.trans e2) (.tup (.inl (.inl upd_same)) (rv.mono e2)) q⟩
/-- new objects made by value rules -/
theorem new_ok {F H : Hp} {σ : St} {ρ : En} (E : EnvOk B K F H σ ρ) {p : Addr} {vs : List V} {xs : List PyData} (hp : H p = none) (rv : RpA K F vs xs) :
    EnvOk B K F (upd H p (.lst vs)) σ ρ ∧ ROk B K F (upd H p (.lst vs)) σ ρ (.ref p) (.new xs) := by
  exact ⟨E.allocO hp, p, vs, rfl, E.fh.free hp, upd_same, rv, E.h0p hp, fun i => E.fr hp i⟩

/-! ### operators -/
abbrev rPlus (K : Fr) : R2 := fun x y H Q => (rI0 fun i j => .int (i + j)) x y H Q ∨ (∃ i j, x = .str i ∧ y = .str j ∧ i.length + j.length ≤ sizeLine ∧ Q (.str (i ++ j)) H) ∨ rCat x y H Q ∨ rCatA K x y H Q
theorem op_plus {X : Cx} : OpR X (binaryOp .Add) (rPlus X.K) := op_add.or (op_add_str.or (op_cat.or op_catA))
def Plus : PyData → PyData → (R → Prop) → Prop
  | .int i, .int j, k => k (.d (.int (i + j)))
  | .str s, .str t, k => s.length + t.length ≤ lim ∧ k (.d (.str (s ++ t)))
  | .list xs, .list ys, k => xs.length + ys.length ≤ lim ∧ k (.new (xs ++ ys))
  | _, _, _ => False
theorem we_plus (h : WD B K ta ρ fun x ρ1 => WD B K tb ρ1 fun y ρ2 => Plus x y fun r => Q r ρ2) : WE B K (tOp (rPlus K) ta tb) ρ Q := fun F H σ E QQ k =>
  h F H σ E _ fun v x F1 H1 ρ1 E1 e1 rv q => q F1 H1 σ E1 _ fun u y F2 H2 ρ2 E2 e2 ru q2 => by
    have e12 := e1.trans e2
    have rv' := Rp.mono e2 rv
    cases x <;> cases y <;> try exact False.elim q2
    · cases rv; cases ru
      exact .inl ⟨_, _, rfl, rfl, k _ (.d (.int _)) F2 H2 ρ2 E2 e12 (Rp.int _) q2⟩
    · cases rv; cases ru
      exact .inr (.inl ⟨_, _, rfl, rfl, lim_le q2.1, k _ (.d (.str _)) F2 H2 ρ2 E2 e12 (Rp.str _) q2.2⟩)
    · cases rv' with
      | @lst a vs xs ha ra =>
      cases ru with
      | @lst b ws ys hb rb =>
      refine .inr (.inr (.inl ⟨a, b, vs, ws, rfl, rfl, E2.fh _ _ ha, E2.fh _ _ hb, by rw [ra.length, rb.length]; exact lim_le q2.1, fun p hp => ?_⟩))
      obtain ⟨E3, r3⟩ := new_ok E2 hp (ra.append rb)
      exact k _ _ F2 _ ρ2 E3 e12 r3 q2.2
theorem wd_sub (h : WD B K ta ρ fun x ρ1 => ∃ i, x = .int i ∧ WD B K tb ρ1 fun y ρ2 => ∃ j, y = .int j ∧ QD (.int (i - j)) ρ2) : WD B K (tOp (rI0 fun i j => .int (i - j)) ta tb) ρ QD := fun F H σ E QQ k =>
  h F H σ E _ fun v x F1 H1 ρ1 E1 e1 rv ⟨i, hx, q⟩ => q F1 H1 σ E1 _ fun u y F2 H2 ρ2 E2 e2 ru ⟨j, hy, q2⟩ => by
    subst hx hy
    cases rv; cases ru
    exact ⟨i, j, rfl, rfl, k _ _ F2 H2 ρ2 E2 (e1.trans e2) (.int _) q2⟩
theorem wd_iop {C : Int → Int → Prop} {g : Int → Int → Int} (h : WD B K ta ρ fun x ρ1 => ∃ i, x = .int i ∧ WD B K tb ρ1 fun y ρ2 => ∃ j, y = .int j ∧ C i j ∧ QD (.int (g i j)) ρ2) : WD B K (tOp (rI C fun i j => .int (g i j)) ta tb) ρ QD := fun F H σ E QQ k =>
  h F H σ E _ fun v x F1 H1 ρ1 E1 e1 rv ⟨i, hx, q⟩ => q F1 H1 σ E1 _ fun u y F2 H2 ρ2 E2 e2 ru ⟨j, hy, hc, q2⟩ => by
    subst hx hy
    cases rv; cases ru
    exact ⟨i, j, rfl, rfl, hc, k _ _ F2 H2 ρ2 E2 (e1.trans e2) (.int _) q2⟩
theorem wd_neg (h : WD B K ta ρ fun x ρ1 => ∃ i, x = .int i ∧ QD (.int (-i)) ρ1) : WD B K (tUn (rU fun i => .int (-i)) ta) ρ QD := fun F H σ E QQ k =>
  h F H σ E _ fun v x F1 H1 ρ1 E1 e1 rv ⟨i, hx, q⟩ => by
    subst hx
    cases rv
    exact ⟨i, rfl, k _ _ F1 H1 ρ1 E1 e1 (.int _) q⟩
/-- list * int -/
theorem we_rep (h : WD B K ta ρ fun x ρ1 => ∃ xs, x = .list xs ∧ WD B K tb ρ1 fun y ρ2 => ∃ j, y = .int j ∧ 0 ≤ j ∧ j ≤ 1000000 ∧ xs.length * j.toNat ≤ lim ∧ Q (.new (List.replicate j.toNat xs).flatten) ρ2) : WE B K (tOp rRep ta tb) ρ Q := fun F H σ E QQ k =>
  h F H σ E _ fun v x F1 H1 ρ1 E1 e1 rv ⟨xs, hx, q⟩ => q F1 H1 σ E1 _ fun u y F2 H2 ρ2 E2 e2 ru ⟨j, hy, j0, j1, hl, q2⟩ => by
    subst hx hy
    have rv' := Rp.mono e2 rv
    cases ru
    cases rv' with
    | @lst a vs xs ha ra =>
    refine ⟨a, j, vs, rfl, rfl, E2.fh _ _ ha, by omega, by omega, by rw [ra.length]; exact lim_le hl, fun p hp => ?_⟩
    obtain ⟨E3, r3⟩ := new_ok E2 hp (ra.rep _)
    exact k _ _ F2 _ ρ2 E3 (e1.trans e2) r3 q2

/-! ### comparisons -/
theorem wd_lt {p : Int → Int → Bool} (h : WD B K ta ρ fun x ρ1 => ∃ i, x = .int i ∧ WD B K tb ρ1 fun y ρ2 => ∃ j, y = .int j ∧ QD (.bool (p i j)) ρ2) : WD B K (tOp (rI0 fun i j => .bl (p i j)) ta tb) ρ QD := fun F H σ E QQ k =>
  h F H σ E _ fun v x F1 H1 ρ1 E1 e1 rv ⟨i, hx, q⟩ => q F1 H1 σ E1 _ fun u y F2 H2 ρ2 E2 e2 ru ⟨j, hy, q2⟩ => by
    subst hx hy
    cases rv; cases ru
    exact ⟨i, j, rfl, rfl, k _ _ F2 H2 ρ2 E2 (e1.trans e2) (.bl _) q2⟩
/-- == and != of data -/
theorem wd_eqD (h : WD B K ta ρ fun x ρ1 => WD B K tb ρ1 fun y ρ2 => (noD x = true ∧ noD y = true ∧ SeqAt.shaped x = true ∧ SeqAt.shaped y = true) ∧ QD (.bool (PyData.eqv x y)) ρ2) : WD B K (tOp (rEqD K) ta tb) ρ QD := fun F H σ E QQ k =>
  h F H σ E _ fun v x F1 H1 ρ1 E1 e1 rv q => q F1 H1 σ E1 _ fun u y F2 H2 ρ2 E2 e2 ru ⟨⟨n1, n2, s1, s2⟩, q2⟩ =>
    ⟨x, y, Rp.dp E2.fh (Rp.mono e2 rv) n1, Rp.dp E2.fh ru n2, s1, s2, k _ _ F2 H2 ρ2 E2 (e1.trans e2) (.bl _) q2⟩
theorem wd_neD (h : WD B K ta ρ fun x ρ1 => WD B K tb ρ1 fun y ρ2 => (noD x = true ∧ noD y = true ∧ SeqAt.shaped x = true ∧ SeqAt.shaped y = true) ∧ QD (.bool (!PyData.eqv x y)) ρ2) : WD B K (tOp (rNeD K) ta tb) ρ QD := fun F H σ E QQ k =>
  h F H σ E _ fun v x F1 H1 ρ1 E1 e1 rv q => q F1 H1 σ E1 _ fun u y F2 H2 ρ2 E2 e2 ru ⟨⟨n1, n2, s1, s2⟩, q2⟩ =>
    ⟨x, y, Rp.dp E2.fh (Rp.mono e2 rv) n1, Rp.dp E2.fh ru n2, s1, s2, k _ _ F2 H2 ρ2 E2 (e1.trans e2) (.bl _) q2⟩
/-- own == data, own != data -/
theorem own_dp {F H : Hp} {σ : St} (E : EnvOk B K F H σ ρ) {i : Nat} {xs : List PyData} (h : ρ[i]? = some (some (.own xs))) (n : noDs xs = true) {v : V} (hv : σ[i]? = some (some v)) : Dp K H v (.list xs) := by
  obtain ⟨a, vs, e, _, k2, k3⟩ := E.own_at h
  rw [hv] at e
  cases e
  exact .lst (.inl (.inl k2)) (RpA.dp E.fh k3 n)
theorem wd_eqO {i : Nat} {zs : List PyData} (hi : ρ[i]? = some (some (.own zs))) (h : WD B K tb ρ fun y ρ2 => ∃ xs, ρ2[i]? = some (some (.own xs)) ∧ (noDs xs = true ∧ noD y = true ∧ SeqAt.shaped (.list xs) = true ∧ SeqAt.shaped y = true) ∧ QD (.bool (PyData.eqv (.list xs) y)) ρ2) : WD B K (tOp (rEqD K) (tVar i) tb) ρ QD := fun F H σ E QQ k => by
  obtain ⟨a, vs, e, _⟩ := E.own_at hi
  exact ⟨.ref a, e, h F H σ E _ fun u y F2 H2 ρ2 E2 e2 ru ⟨xs, hx, ⟨n1, n2, s1, s2⟩, q2⟩ => ⟨_, y, own_dp E2 hx n1 e, Rp.dp E2.fh ru n2, s1, s2, k _ _ F2 H2 ρ2 E2 e2 (.bl _) q2⟩⟩
theorem wd_neO {i : Nat} {zs : List PyData} (hi : ρ[i]? = some (some (.own zs))) (h : WD B K tb ρ fun y ρ2 => ∃ xs, ρ2[i]? = some (some (.own xs)) ∧ (noDs xs = true ∧ noD y = true ∧ SeqAt.shaped (.list xs) = true ∧ SeqAt.shaped y = true) ∧ QD (.bool (!PyData.eqv (.list xs) y)) ρ2) : WD B K (tOp (rNeD K) (tVar i) tb) ρ QD := fun F H σ E QQ k => by
  obtain ⟨a, vs, e, _⟩ := E.own_at hi
  exact ⟨.ref a, e, h F H σ E _ fun u y F2 H2 ρ2 E2 e2 ru ⟨xs, hx, ⟨n1, n2, s1, s2⟩, q2⟩ => ⟨_, y, own_dp E2 hx n1 e, Rp.dp E2.fh ru n2, s1, s2, k _ _ F2 H2 ρ2 E2 e2 (.bl _) q2⟩⟩
def isNon : PyData → Bool
  | .none => true
  | _ => false
/-- is None -/
theorem wd_isN (h : WD B K ta ρ fun x ρ1 => QD (.bool (isNon x)) ρ1) : WD B K (tIsN ta) ρ QD := fun F H σ E QQ k =>
  h F H σ E _ fun v x F1 H1 ρ1 E1 e1 rv q => by
    have e : V.bl (decide (v = .non)) = V.bl (isNon x) := by cases rv <;> rfl
    rw [e]
    exact k _ _ F1 H1 ρ1 E1 e1 (.bl _) q
theorem wd_notN (h : WD B K ta ρ fun x ρ1 => QD (.bool (!isNon x)) ρ1) : WD B K (tNotN ta) ρ QD := fun F H σ E QQ k =>
  h F H σ E _ fun v x F1 H1 ρ1 E1 e1 rv q => by
    have e : V.bl (!decide (v = .non)) = V.bl (!isNon x) := by cases rv <;> rfl
    rw [e]
    exact k _ _ F1 H1 ρ1 E1 e1 (.bl _) q

/-! ### tests -/
theorem wt_test (h : WD B K te ρ fun x ρ1 => ∃ b, x = .bool b ∧ QT b ρ1) : WT B K (tTest te) ρ QT := fun F H σ E QQ k =>
  h F H σ E _ fun v x F1 H1 ρ1 E1 e1 rv ⟨b, hx, q⟩ => by
    subst hx
    cases rv
    exact ⟨b, rfl, k b F1 H1 ρ1 E1 e1 q⟩
theorem wt_B (h : WD B K te ρ fun x ρ1 => ∃ b, x = .bool b ∧ QT b ρ1) : WT B K (tB te) ρ QT := fun F H σ E QQ k =>
  h F H σ E _ fun v x F1 H1 ρ1 E1 e1 rv ⟨b, hx, q⟩ => by
    subst hx
    cases rv
    exact ⟨b, rfl, k b F1 H1 ρ1 E1 e1 q⟩
theorem wt_and {t u : TT} (h : WT B K t ρ fun b ρ1 => (b = true → WT B K u ρ1 QT) ∧ (b = false → QT false ρ1)) : WT B K (tAnd t u) ρ QT := fun F H σ E QQ k =>
  h F H σ E _ fun b F1 H1 ρ1 E1 e1 q => by
    cases b with
    | true => exact q.1 rfl F1 H1 σ E1 _ fun b F2 H2 ρ2 E2 e2 q2 => k b F2 H2 ρ2 E2 (e1.trans e2) q2
    | false => exact k false F1 H1 ρ1 E1 e1 (q.2 rfl)
theorem wt_or {t u : TT} (h : WT B K t ρ fun b ρ1 => (b = true → QT true ρ1) ∧ (b = false → WT B K u ρ1 QT)) : WT B K (tOr t u) ρ QT := fun F H σ E QQ k =>
  h F H σ E _ fun b F1 H1 ρ1 E1 e1 q => by
    cases b with
    | false => exact q.2 rfl F1 H1 σ E1 _ fun b F2 H2 ρ2 E2 e2 q2 => k b F2 H2 ρ2 E2 (e1.trans e2) q2
    | true => exact k true F1 H1 ρ1 E1 e1 (q.1 rfl)
theorem wt_not {t : TT} (h : WT B K t ρ fun b ρ1 => QT (!b) ρ1) : WT B K (tNot t) ρ QT := fun F H σ E QQ k =>
  h F H σ E _ fun b F1 H1 ρ1 E1 e1 q => k (!b) F1 H1 ρ1 E1 e1 q
theorem wt_mono {t : TT} {Q' : Bool → En → Prop} (h : WT B K t ρ Q') (i : ∀ b ρ', Q' b ρ' → QT b ρ') : WT B K t ρ QT := fun F H σ E QQ k =>
  h F H σ E QQ fun v F' H' ρ' E' ef q => k v F' H' ρ' E' ef (i v ρ' q)
theorem wd_andV (h : WD B K ta ρ fun x ρ1 => ∃ b, x = .bool b ∧ (b = true → WD B K tb ρ1 QD) ∧ (b = false → QD (.bool false) ρ1)) : WD B K (tAndV ta tb) ρ QD := fun F H σ E QQ k =>
  h F H σ E _ fun v x F1 H1 ρ1 E1 e1 rv ⟨b, hx, q⟩ => by
    subst hx
    cases rv
    refine ⟨b, rfl, ?_⟩
    cases b with
    | true => exact q.1 rfl F1 H1 σ E1 _ fun v x F2 H2 ρ2 E2 e2 r2 q2 => k v x F2 H2 ρ2 E2 (e1.trans e2) r2 q2
    | false => exact k _ _ F1 H1 ρ1 E1 e1 (.bl false) (q.2 rfl)
theorem wd_orV (h : WD B K ta ρ fun x ρ1 => ∃ b, x = .bool b ∧ (b = true → QD (.bool true) ρ1) ∧ (b = false → WD B K tb ρ1 QD)) : WD B K (tOrV ta tb) ρ QD := fun F H σ E QQ k =>
  h F H σ E _ fun v x F1 H1 ρ1 E1 e1 rv ⟨b, hx, q⟩ => by
    subst hx
    cases rv
    refine ⟨b, rfl, ?_⟩
    cases b with
    | false => exact q.2 rfl F1 H1 σ E1 _ fun v x F2 H2 ρ2 E2 e2 r2 q2 => k v x F2 H2 ρ2 E2 (e1.trans e2) r2 q2
    | true => exact k _ _ F1 H1 ρ1 E1 e1 (.bl true) (q.1 rfl)
theorem wd_notV (h : WD B K ta ρ fun x ρ1 => ∃ b, x = .bool b ∧ QD (.bool (!b)) ρ1) : WD B K (tNotV ta) ρ QD := fun F H σ E QQ k =>
  h F H σ E _ fun v x F1 H1 ρ1 E1 e1 rv ⟨b, hx, q⟩ => by
    subst hx
    cases rv
    exact ⟨b, rfl, k _ _ F1 H1 ρ1 E1 e1 (.bl _) q⟩
theorem we_if (h : WT B K tt ρ fun b ρ1 => (b = true → WE B K ta ρ1 Q) ∧ (b = false → WE B K tb ρ1 Q)) : WE B K (tIf tt ta tb) ρ Q := fun F H σ E QQ k =>
  h F H σ E _ fun b F1 H1 ρ1 E1 e1 q => by
    cases b with
    | true => exact q.1 rfl F1 H1 σ E1 _ fun v r F2 H2 ρ2 E2 e2 r2 q2 => k v r F2 H2 ρ2 E2 (e1.trans e2) r2 q2
    | false => exact q.2 rfl F1 H1 σ E1 _ fun v r F2 H2 ρ2 E2 e2 r2 q2 => k v r F2 H2 ρ2 E2 (e1.trans e2) r2 q2

/-! ### subscripts -/
def Idx : PyData → PyData → (PyData → Prop) → Prop
  | .list xs, .int i, k => ∃ d, atI xs i = some d ∧ k d
  | .tuple xs, .int i, k => ∃ d, atI xs i = some d ∧ k d
  | .str z, .int i, k => z.length ≤ lim ∧ ∃ c, atI z.cps.toList i = some c ∧ k (.str ⟨#[c]⟩)
  | _, _, _ => False
theorem RpA.at {F : Hp} {vs : List V} {xs : List PyData} {i : Int} {d : PyData} (r : RpA K F vs xs) (h : atI xs i = some d) : ∃ v, atI vs i = some v ∧ Rp K F v d := by
  unfold atI at h ⊢
  rw [r.length]
  cases e : ixN xs.length i with
  | none => rw [e] at h; cases h
  | some j =>
    rw [e] at h
    obtain ⟨v, hv, q⟩ := r.get' (i := j) h
    exact ⟨v, hv, q⟩
theorem wd_ix (h : WD B K ta ρ fun x ρ1 => WD B K tb ρ1 fun y ρ2 => Idx x y fun z => QD z ρ2) : WD B K (tOp (rIx K) ta tb) ρ QD := fun F H σ E QQ k =>
  h F H σ E _ fun v x F1 H1 ρ1 E1 e1 rv q => q F1 H1 σ E1 _ fun u y F2 H2 ρ2 E2 e2 ru q2 => by
    have e12 := e1.trans e2
    have rv' := Rp.mono e2 rv
    cases x <;> cases y <;> try exact False.elim q2
    · cases rv'; cases ru
      obtain ⟨hz, c, hc, q3⟩ := q2
      exact .inr (.inr ⟨_, _, c, rfl, rfl, lim_le hz, hc, k _ _ F2 H2 ρ2 E2 e12 (.str _) q3⟩)
    · cases ru
      obtain ⟨d, hd, q3⟩ := q2
      cases rv' with
      | @lst a vs xs ha ra =>
      obtain ⟨w, hw, rw'⟩ := ra.at hd
      exact .inl ⟨a, vs, _, w, rfl, rfl, .inl (.inl (E2.fh _ _ ha)), hw, k _ _ F2 H2 ρ2 E2 e12 rw' q3⟩
    · cases ru
      obtain ⟨d, hd, q3⟩ := q2
      cases rv' with
      | @tup a vs xs ha ra =>
      obtain ⟨w, hw, rw'⟩ := ra.at hd
      exact .inr (.inl ⟨a, vs, _, w, rfl, rfl, E2.fh.stt ha, hw, k _ _ F2 H2 ρ2 E2 e12 rw' q3⟩)
theorem wd_ixO {j : Nat} {zs : List PyData} (hj : ρ[j]? = some (some (.own zs))) (h : WD B K tb ρ fun y ρ2 => ∃ xs i d, ρ2[j]? = some (some (.own xs)) ∧ y = .int i ∧ atI xs i = some d ∧ QD d ρ2) : WD B K (tOp (rIx K) (tVar j) tb) ρ QD := fun F H σ E QQ k => by
  obtain ⟨a, vs, e, _⟩ := E.own_at hj
  refine ⟨.ref a, e, h F H σ E _ fun u y F2 H2 ρ2 E2 e2 ru ⟨xs, i, d, hx, hy, hd, q2⟩ => ?_⟩
  subst hy
  cases ru
  obtain ⟨a', vs', e', _, k2, k3⟩ := E2.own_at hx
  rw [e] at e'
  cases e'
  obtain ⟨w, hw, rw'⟩ := k3.at hd
  exact .inl ⟨a, vs', i, w, rfl, rfl, .inl (.inl k2), hw, k _ _ F2 H2 ρ2 E2 e2 rw' q2⟩
theorem wd_ixS {j : Nat} {ns : List Int} (hj : ρ[j]? = some (some (.scr ns))) (h : WD B K tb ρ fun y ρ2 => ∃ i n, y = .int i ∧ atI ns i = some n ∧ QD (.int n) ρ2) : WD B K (tOp (rIx K) (tVar j) tb) ρ QD := fun F H σ E QQ k => by
  obtain ⟨v, e, a, hv, hs⟩ := E.sl j _ hj
  subst hv
  refine ⟨.ref a, e, h F H σ E _ fun u y F2 H2 ρ2 E2 e2 ru ⟨i, n, hy, hn, q2⟩ => ?_⟩
  subst hy
  cases ru
  have hw : atI (ns.map V.int) i = some (.int n) := by
    unfold atI at hn ⊢
    rw [List.length_map]
    cases e : ixN ns.length i with
    | none => rw [e] at hn; cases hn
    | some j =>
      rw [e] at hn
      show (ns.map V.int)[j]? = _
      rw [List.getElem?_map, show ns[j]? = some n from hn]
      rfl
  exact .inl ⟨a, _, i, _, rfl, rfl, E2.fh.sl (e2.sl hs), hw, k _ _ F2 H2 ρ2 E2 e2 (.int n) q2⟩
/-! ### slices -/
theorem wo_none (q : QO none ρ) : WO B K tNoPart ρ QO := fun F H σ E QQ k => k none F H ρ E (Ex.refl F) q
theorem wo_some (h : WD B K te ρ fun x ρ1 => ∃ i, x = .int i ∧ QO (some i) ρ1) : WO B K (tPart te) ρ QO := fun F H σ E QQ k =>
  h F H σ E _ fun v x F1 H1 ρ1 E1 e1 rv ⟨i, hx, q⟩ => by
    subst hx
    cases rv
    exact ⟨i, rfl, k (some i) F1 H1 ρ1 E1 e1 q⟩
def cutD {α : Type} (xs : List α) (lo hi : Option Int) : List α := (xs.drop (HT.sIx xs.length 0 lo)).take (HT.sIx xs.length xs.length hi - HT.sIx xs.length 0 lo)
theorem RpA.cut {F : Hp} {vs : List V} {xs : List PyData} (r : RpA K F vs xs) (lo hi : Option Int) : RpA K F (cutV vs lo hi) (cutD xs lo hi) := by
  unfold cutV cutD
  rw [r.length]
  exact (r.drop _).take _
theorem cutV_map {α : Type} (f : α → V) (xs : List α) (lo hi : Option Int) : cutV (xs.map f) lo hi = (cutD xs lo hi).map f := by
  unfold cutV cutD
  rw [List.length_map, List.map_take, List.map_drop]
theorem cutD_map {α β : Type} (f : α → β) (xs : List α) (lo hi : Option Int) : cutD (xs.map f) lo hi = (cutD xs lo hi).map f := by
  unfold cutD
  rw [List.length_map, List.map_take, List.map_drop]
abbrev rSlAny (K : Fr) : V → Option Int → Option Int → Hp → VK → Prop := fun x lo hi H Q => rSlL K x lo hi H Q ∨ rSlA K x lo hi H Q ∨ rSlS x lo hi H Q
theorem sl_any {X : Cx} : SlR X (rSlAny X.K) := sl_list.or (sl_tupA.or sl_str)
end
end SV

set_option maxHeartbeats 1000000
namespace SV
open PySem PySem.Spec L2
open Evl (Ex)
variable [Tbs]

/-! ### slots that may be stored -/
def NP (B : Bs) (i : Nat) : Prop := ∀ a, B.pin ≠ some (i, a)
theorem np_of {B : Bs} {p : Option Nat} {i : Nat} (h : B.pin.map Prod.fst = p) (n : p ≠ some i) : NP B i := fun a e => n (by rw [← h, e]; rfl)
section
variable {B : Bs} {K : Fr} {ρ : En} {ta tb te : TE} {tt : TT} {tr tl : TA} {Q : R → En → Prop} {QD : PyData → En → Prop} {QT : Bool → En → Prop} {QA : List Ar → En → Prop} {QO : Option Int → En → Prop} {Z : Zs}

/-! ### slices -/
def Slc : PyData → Option Int → Option Int → (R → Prop) → Prop
  | .list xs, lo, hi, k => k (.new (cutD xs lo hi))
  | .tuple xs, lo, hi, k => k (.d (.tuple (cutD xs lo hi)))
  | .str z, lo, hi, k => z.length ≤ lim ∧ k (.d (.str (cutS z lo hi)))
  | _, _, _, _ => False
theorem cutD_all {α : Type} {xs : List α} {lo hi : Option Int} (h1 : HT.sIx xs.length 0 lo = 0) (h2 : HT.sIx xs.length xs.length hi = xs.length) : cutD xs lo hi = xs := by
  unfold cutD
  rw [h1, h2, List.drop_zero, Nat.sub_zero, List.take_length]
theorem we_sl {t1 t2 : TO} (h : WD B K te ρ fun x ρ1 => WO B K t1 ρ1 fun lo ρ2 => WO B K t2 ρ2 fun hi ρ3 => Slc x lo hi fun r => Q r ρ3) : WE B K (tSl (rSlAny K) te t1 t2) ρ Q := fun F H σ E QQ k =>
  h F H σ E _ fun v x F1 H1 ρ1 E1 e1 rv q => q F1 H1 σ E1 _ fun lo F2 H2 ρ2 E2 e2 q2 => q2 F2 H2 σ E2 _ fun hi F3 H3 ρ3 E3 e3 q3 => by
    have e13 := e1.trans (e2.trans e3)
    have rv' := Rp.mono (e2.trans e3) rv
    cases x <;> try exact False.elim q3
    · cases rv'
      exact .inr (.inr ⟨_, rfl, lim_le q3.1, k _ (.d (.str _)) F3 H3 ρ3 E3 e13 (Rp.str _) q3.2⟩)
    · cases rv' with
      | @lst a vs xs ha ra =>
      refine .inl ⟨a, vs, rfl, .inl (.inl (E3.fh _ _ ha)), fun p hp => ?_⟩
      obtain ⟨E4, r4⟩ := new_ok E3 hp (ra.cut lo hi)
      exact k _ _ F3 _ ρ3 E4 e13 r4 q3
    · cases rv' with
      | @tup a vs xs ha ra =>
      refine .inr (.inl ⟨a, vs, rfl, E3.fh.stt ha, fun w => ?_, fun w p hp => ?_⟩)
      · refine k _ (.d (.tuple (cutD _ lo hi))) F3 H3 ρ3 E3 e13 ?_ q3
        rw [cutD_all (by rw [← ra.length]; exact w.1) (by rw [← ra.length]; exact w.2)]
        exact Rp.tup ha ra
      · obtain ⟨E4, e4⟩ := E3.alloc (o := .tup (cutV vs lo hi)) hp
        exact k _ (.d (.tuple _)) _ _ ρ3 E4 (e13.trans e4) (Rp.tup (.inl (.inl upd_same)) ((ra.cut lo hi).mono e4)) q3
theorem we_slS {j : Nat} {ns : List Int} {t1 t2 : TO} (hj : ρ[j]? = some (some (.scr ns))) (h : WO B K t1 ρ fun lo ρ2 => WO B K t2 ρ2 fun hi ρ3 => Q (.new ((cutD ns lo hi).map .int)) ρ3) : WE B K (tSl (rSlAny K) (tVar j) t1 t2) ρ Q := fun F H σ E QQ k => by
  obtain ⟨v, e, a, hv, hs⟩ := E.sl j _ hj
  subst hv
  refine ⟨.ref a, e, h F H σ E _ fun lo F2 H2 ρ2 E2 e2 q2 => q2 F2 H2 σ E2 _ fun hi F3 H3 ρ3 E3 e3 q3 => ?_⟩
  refine .inl ⟨a, _, rfl, E3.fh.sl ((e2.trans e3).sl hs), fun p hp => ?_⟩
  obtain ⟨E4, r4⟩ := new_ok E3 hp (RpA.of_ints (K := K) (F := F3) (cutD ns lo hi))
  rw [cutV_map]
  exact k _ _ F3 _ ρ3 E4 (e2.trans e3) r4 q3
theorem we_slO {j : Nat} {zs : List PyData} {t1 t2 : TO} (hj : ρ[j]? = some (some (.own zs))) (h : WO B K t1 ρ fun lo ρ2 => WO B K t2 ρ2 fun hi ρ3 => ∃ xs, ρ3[j]? = some (some (.own xs)) ∧ Q (.new (cutD xs lo hi)) ρ3) : WE B K (tSl (rSlAny K) (tVar j) t1 t2) ρ Q := fun F H σ E QQ k => by
  obtain ⟨a, vs, e, _⟩ := E.own_at hj
  refine ⟨.ref a, e, h F H σ E _ fun lo F2 H2 ρ2 E2 e2 q2 => q2 F2 H2 σ E2 _ fun hi F3 H3 ρ3 E3 e3 ⟨xs, hx, q3⟩ => ?_⟩
  obtain ⟨a', ws, e', _, k2, k3⟩ := E3.own_at hx
  rw [e] at e'
  cases e'
  refine .inl ⟨a, ws, rfl, .inl (.inl k2), fun p hp => ?_⟩
  obtain ⟨E4, r4⟩ := new_ok E3 hp (k3.cut lo hi)
  exact k _ _ F3 _ ρ3 E4 (e2.trans e3) r4 q3

/-! ### len -/
abbrev rLen (K : Fr) : List V → Hp → VK → Prop := fun xs H Q => ∃ x n, xs = [x] ∧ LenV K x H n ∧ Q (.int n) H
def Len : PyData → (Int → Prop) → Prop
  | .list xs, k => k xs.length
  | .tuple xs, k => k xs.length
  | .str z, k => z.length ≤ lim ∧ k z.length
  | _, _ => False
theorem wd_len (h : WD B K te ρ fun x ρ1 => Len x fun n => QD (.int n) ρ1) : WD B K (tCB (rLen K) (tCons te tNil)) ρ QD := fun F H σ E QQ k =>
  h F H σ E _ fun v x F1 H1 ρ1 E1 e1 rv q => by
    cases x <;> try exact False.elim q
    · cases rv
      exact ⟨_, _, rfl, ⟨lim_le q.1, rfl⟩, k _ _ F1 H1 ρ1 E1 e1 (.int _) q.2⟩
    · cases rv with
      | @lst a vs xs ha ra => exact ⟨_, vs.length, rfl, .inl ⟨vs, .inl (.inl (E1.fh _ _ ha)), rfl⟩, k _ _ F1 H1 ρ1 E1 e1 (by rw [ra.length]; exact .int _) q⟩
    · cases rv with
      | @tup a vs xs ha ra => exact ⟨_, vs.length, rfl, .inr ⟨vs, E1.fh.stt ha, rfl⟩, k _ _ F1 H1 ρ1 E1 e1 (by rw [ra.length]; exact .int _) q⟩
theorem wd_lenO {j : Nat} {xs : List PyData} (hj : ρ[j]? = some (some (.own xs))) (q : QD (.int xs.length) ρ) : WD B K (tCB (rLen K) (tCons (tVar j) tNil)) ρ QD := fun F H σ E QQ k => by
  obtain ⟨a, vs, e, _, k2, k3⟩ := E.own_at hj
  exact ⟨.ref a, e, _, vs.length, rfl, .inl ⟨vs, .inl (.inl k2), rfl⟩, k _ _ F H ρ E (Ex.refl F) (by rw [k3.length]; exact .int _) q⟩
theorem wd_lenS {j : Nat} {ns : List Int} (hj : ρ[j]? = some (some (.scr ns))) (q : QD (.int ns.length) ρ) : WD B K (tCB (rLen K) (tCons (tVar j) tNil)) ρ QD := fun F H σ E QQ k => by
  obtain ⟨v, e, a, hv, hs⟩ := E.sl j _ hj
  subst hv
  exact ⟨.ref a, e, _, _, rfl, .inl ⟨_, E.fh.sl hs, rfl⟩, k _ _ F H ρ E (Ex.refl F) (by rw [List.length_map]; exact .int _) q⟩

/-! ### isinstance of plain data against a built-in type -/
inductive Ty where | int | bool | str | tuple | list | dict | non
def Ty.name : Ty → String
  | .int => "int" | .bool => "bool" | .str => "str" | .tuple => "tuple" | .list => "list" | .dict => "dict" | .non => "NoneType"
def tyD : PyData → Ty
  | .int _ => .int | .bool _ => .bool | .str _ => .str | .tuple _ => .tuple | .list _ => .list | .dict _ => .dict | .none => .non
def isTy : Ty → Ty → Bool
  | .int, .int => true | .bool, .bool => true | .bool, .int => true | .str, .str => true | .tuple, .tuple => true | .list, .list => true | .dict, .dict => true | .non, .non => true
  | _, _ => false
theorem kit_ok (a b : Ty) : PySem.W.kitOne K (.type a.name) (.type b.name) = some (isTy a b) := by
  cases a <;> cases b <;> exact kit_ty (by decide +kernel)
theorem tyx_of {F H : Hp} {v : V} {x : PyData} (e : Ex F H) (r : Rp K F v x) : TyX K H v (.type (tyD x).name) := by
  cases r with
  | non => exact .base .non
  | bl b => exact .base (.bl b)
  | int b => exact .base (.int b)
  | str b => exact .base (.str b)
  | lst h _ => exact .base (.lst (e _ _ h))
  | tup h _ =>
    rcases h with (h | ⟨o, h⟩) | ⟨o, its, n, ho, hc, _⟩
    · exact .base (.tup (e _ _ h))
    · exact .fTuple (e _ _ h)
    · exact .kTuple ho hc
  | dct h => exact .base (.dK (e _ _ h))
theorem wd_isi (t : Ty) (h : WD B K te ρ fun x ρ1 => QD (.bool (isTy (tyD x) t)) ρ1) : WD B K (tCB (rIsi K) (tCons te (tCons (tC (.ty t.name)) tNil))) ρ QD := fun F H σ E QQ k =>
  h F H σ E _ fun v x F1 H1 ρ1 E1 e1 rv q => ⟨v, .ty t.name, .type (tyD x).name, .type t.name, isTy (tyD x) t, rfl, .ty _, tyx_of E1.fh rv, kit_ok _ _, k _ _ F1 H1 ρ1 E1 e1 (.bl _) q⟩

theorem wd_isi_int (h : WD B K te ρ fun x ρ1 => QD (.bool (isTy (tyD x) .int)) ρ1) : WD B K (tCB (rIsi K) (tCons te (tCons (tC (.ty "int")) tNil))) ρ QD := wd_isi .int h
theorem wd_isi_bool (h : WD B K te ρ fun x ρ1 => QD (.bool (isTy (tyD x) .bool)) ρ1) : WD B K (tCB (rIsi K) (tCons te (tCons (tC (.ty "bool")) tNil))) ρ QD := wd_isi .bool h
theorem wd_isi_str (h : WD B K te ρ fun x ρ1 => QD (.bool (isTy (tyD x) .str)) ρ1) : WD B K (tCB (rIsi K) (tCons te (tCons (tC (.ty "str")) tNil))) ρ QD := wd_isi .str h
theorem wd_isi_tuple (h : WD B K te ρ fun x ρ1 => QD (.bool (isTy (tyD x) .tuple)) ρ1) : WD B K (tCB (rIsi K) (tCons te (tCons (tC (.ty "tuple")) tNil))) ρ QD := wd_isi .tuple h
theorem wd_isi_list (h : WD B K te ρ fun x ρ1 => QD (.bool (isTy (tyD x) .list)) ρ1) : WD B K (tCB (rIsi K) (tCons te (tCons (tC (.ty "list")) tNil))) ρ QD := wd_isi .list h
theorem wd_isi_dict (h : WD B K te ρ fun x ρ1 => QD (.bool (isTy (tyD x) .dict)) ρ1) : WD B K (tCB (rIsi K) (tCons te (tCons (tC (.ty "dict")) tNil))) ρ QD := wd_isi .dict h
/-! ### a call of a built-in on data, by values -/
theorem wd_max2 (h : WD B K ta ρ fun x ρ1 => ∃ i, x = .int i ∧ WD B K tb ρ1 fun y ρ2 => ∃ j, y = .int j ∧ QD (.int (if j > i then j else i)) ρ2) : WD B K (tCB (fun xs H Q => ∃ i j, xs = [.int i, .int j] ∧ Q (.int (if j > i then j else i)) H) (tCons ta (tCons tb tNil))) ρ QD := fun F H σ E QQ k =>
  h F H σ E _ fun v x F1 H1 ρ1 E1 e1 rv ⟨i, hx, q⟩ => q F1 H1 σ E1 _ fun u y F2 H2 ρ2 E2 e2 ru ⟨j, hy, q2⟩ => by
    subst hx hy
    cases rv; cases ru
    exact ⟨i, j, rfl, k _ _ F2 H2 ρ2 E2 (e1.trans e2) (.int _) q2⟩
theorem wd_min2 (h : WD B K ta ρ fun x ρ1 => ∃ i, x = .int i ∧ WD B K tb ρ1 fun y ρ2 => ∃ j, y = .int j ∧ QD (.int (if j < i then j else i)) ρ2) : WD B K (tCB (fun xs H Q => ∃ i j, xs = [.int i, .int j] ∧ Q (.int (if j < i then j else i)) H) (tCons ta (tCons tb tNil))) ρ QD := fun F H σ E QQ k =>
  h F H σ E _ fun v x F1 H1 ρ1 E1 e1 rv ⟨i, hx, q⟩ => q F1 H1 σ E1 _ fun u y F2 H2 ρ2 E2 e2 ru ⟨j, hy, q2⟩ => by
    subst hx hy
    cases rv; cases ru
    exact ⟨i, j, rfl, k _ _ F2 H2 ρ2 E2 (e1.trans e2) (.int _) q2⟩
theorem wd_maxL (h : WD B K te ρ fun x ρ1 => ∃ ns : List Int, x = .list (ns.map .int) ∧ 0 < ns.length ∧ ∀ m, m ∈ ns → (∀ y, y ∈ ns → y ≤ m) → QD (.int m) ρ1) : WD B K (tCB (rMax K) (tCons te tNil)) ρ QD := fun F H σ E QQ k =>
  h F H σ E _ fun v x F1 H1 ρ1 E1 e1 rv ⟨ns, hx, hn, q⟩ => by
    subst hx
    cases rv with
    | @lst a vs xs ha ra =>
    have e := ra.ints
    subst e
    exact ⟨a, ns, rfl, .inl (.inl (E1.fh _ _ ha)), hn, fun m hm hy => k _ _ F1 H1 ρ1 E1 e1 (.int m) (q m hm hy)⟩
theorem wd_minL (h : WD B K te ρ fun x ρ1 => ∃ ns : List Int, x = .list (ns.map .int) ∧ 0 < ns.length ∧ ∀ m, m ∈ ns → (∀ y, y ∈ ns → m ≤ y) → QD (.int m) ρ1) : WD B K (tCB (rMin K) (tCons te tNil)) ρ QD := fun F H σ E QQ k =>
  h F H σ E _ fun v x F1 H1 ρ1 E1 e1 rv ⟨ns, hx, hn, q⟩ => by
    subst hx
    cases rv with
    | @lst a vs xs ha ra =>
    have e := ra.ints
    subst e
    exact ⟨a, ns, rfl, .inl (.inl (E1.fh _ _ ha)), hn, fun m hm hy => k _ _ F1 H1 ρ1 E1 e1 (.int m) (q m hm hy)⟩
theorem wd_sum (h : WD B K te ρ fun x ρ1 => ∃ ns : List Int, x = .list (ns.map .int) ∧ QD (.int ns.sum) ρ1) : WD B K (tCB (rSum K) (tCons te tNil)) ρ QD := fun F H σ E QQ k =>
  h F H σ E _ fun v x F1 H1 ρ1 E1 e1 rv ⟨ns, hx, q⟩ => by
    subst hx
    cases rv with
    | @lst a vs xs ha ra =>
    have e := ra.ints
    subst e
    exact ⟨a, ns, rfl, .inl (.inl (E1.fh _ _ ha)), k _ _ F1 H1 ρ1 E1 e1 (.int _) q⟩
/-- list(xs), list(t) -/
abbrev rListOf (K : Fr) : List V → Hp → VK → Prop := fun xs H Q => ∃ p ys, xs = [.ref p] ∧ (SqL K H p ys ∨ SqT K H p ys) ∧ ∀ l, H l = none → Q (.ref l) (upd H l (.lst ys))
def Lof : PyData → (List PyData → Prop) → Prop
  | .list xs, k => k xs
  | .tuple xs, k => k xs
  | _, _ => False
theorem lof_list {xs : List PyData} {k : List PyData → Prop} (h : k xs) : Lof (.list xs) k := h
theorem lof_tup {xs : List PyData} {k : List PyData → Prop} (h : k xs) : Lof (.tuple xs) k := h
theorem we_list (h : WD B K te ρ fun x ρ1 => Lof x fun xs => Q (.new xs) ρ1) : WE B K (tCB (rListOf K) (tCons te tNil)) ρ Q := fun F H σ E QQ k =>
  h F H σ E _ fun v x F1 H1 ρ1 E1 e1 rv q => by
    cases x <;> try exact False.elim q
    · cases rv with
      | @lst a vs xs ha ra =>
      refine ⟨a, vs, rfl, .inl (.inl (.inl (E1.fh _ _ ha))), fun p hp => ?_⟩
      obtain ⟨E4, r4⟩ := new_ok E1 hp ra
      exact k _ _ F1 _ ρ1 E4 e1 r4 q
    · cases rv with
      | @tup a vs xs ha ra =>
      refine ⟨a, vs, rfl, .inr (E1.fh.stt ha), fun p hp => ?_⟩
      obtain ⟨E4, r4⟩ := new_ok E1 hp ra
      exact k _ _ F1 _ ρ1 E4 e1 r4 q
/-- tuple(xs) of a list -/
abbrev rTupOf (K : Fr) : List V → Hp → VK → Prop := fun xs H Q => ∃ p ys, xs = [.ref p] ∧ ((SqL K H p ys ∧ ∀ l, H l = none → Q (.ref l) (upd H l (.tup ys))) ∨ (SqT K H p ys ∧ Q (.ref p) H))
theorem wd_tupOf (h : WD B K te ρ fun x ρ1 => ∃ xs, x = .list xs ∧ QD (.tuple xs) ρ1) : WD B K (tCB (rTupOf K) (tCons te tNil)) ρ QD := fun F H σ E QQ k =>
  h F H σ E _ fun v x F1 H1 ρ1 E1 e1 rv ⟨xs, hx, q⟩ => by
    subst hx
    cases rv with
    | @lst a vs xs ha ra =>
    refine ⟨a, vs, rfl, .inl ⟨.inl (.inl (E1.fh _ _ ha)), fun p hp => ?_⟩⟩
    obtain ⟨E4, e4⟩ := E1.alloc (o := .tup vs) hp
    exact k _ _ _ _ ρ1 E4 (e1.trans e4) (.tup (.inl (.inl upd_same)) (ra.mono e4)) q
theorem wd_tupOfO {j : Nat} {xs : List PyData} (hj : ρ[j]? = some (some (.own xs))) (q : QD (.tuple xs) ρ) : WD B K (tCB (rTupOf K) (tCons (tVar j) tNil)) ρ QD := fun F H σ E QQ k => by
  obtain ⟨a, vs, e, _, k2, k3⟩ := E.own_at hj
  refine ⟨.ref a, e, a, vs, rfl, .inl ⟨.inl (.inl k2), fun p hp => ?_⟩⟩
  obtain ⟨E4, e4⟩ := E.alloc (o := .tup vs) hp
  exact k _ _ _ _ ρ E4 e4 (.tup (.inl (.inl upd_same)) (k3.mono e4)) q
theorem we_listO {j : Nat} {xs : List PyData} (hj : ρ[j]? = some (some (.own xs))) (q : Q (.new xs) ρ) : WE B K (tCB (rListOf K) (tCons (tVar j) tNil)) ρ Q := fun F H σ E QQ k => by
  obtain ⟨a, vs, e, _, k2, k3⟩ := E.own_at hj
  refine ⟨.ref a, e, a, vs, rfl, .inl (.inl (.inl k2)), fun p hp => ?_⟩
  obtain ⟨E4, r4⟩ := new_ok E hp k3
  exact k _ _ F _ ρ E4 (Ex.refl F) r4 q
/-- int(b), int(i) -/
abbrev rInt1 : List V → Hp → VK → Prop := fun xs H Q => (∃ i, xs = [.int i] ∧ Q (.int i) H) ∨ ∃ k, xs = [.bl k] ∧ Q (.int (if k then 1 else 0)) H
theorem wd_int1 (h : WD B K te ρ fun x ρ1 => match x with | .int i => QD (.int i) ρ1 | .bool b => QD (.int (if b then 1 else 0)) ρ1 | _ => False) : WD B K (tCB rInt1 (tCons te tNil)) ρ QD := fun F H σ E QQ k =>
  h F H σ E _ fun v x F1 H1 ρ1 E1 e1 rv q => by
    cases rv with
    | int i => exact .inl ⟨i, rfl, k _ _ F1 H1 ρ1 E1 e1 (.int _) q⟩
    | bl b => exact .inr ⟨b, rfl, k _ _ F1 H1 ρ1 E1 e1 (.int _) q⟩
    | non => exact False.elim q
    | str _ => exact False.elim q
    | lst _ _ => exact False.elim q
    | tup _ _ => exact False.elim q
    | dct _ => exact False.elim q

/-! ### methods of lists that are owned -/
theorem we_append {j : Nat} {zs : List PyData} (hj : ρ[j]? = some (some (.own zs))) (h : WD B K te ρ fun x ρ1 => ∃ xs, ρ1[j]? = some (some (.own xs)) ∧ xs.length < lim ∧ Q (.d .none) (ρ1.set j (some (.own (xs ++ [x]))))) : WE B K (tBM K "list" rAppend (tVar j) (tCons te tNil)) ρ Q := fun F H σ E QQ k => by
  obtain ⟨a, vs, e, _, k2, _⟩ := E.own_at hj
  refine ⟨.ref a, e, .inl ⟨rfl, vs, .inl (.inl k2)⟩, h F H σ E _ fun v x F1 H1 ρ1 E1 e1 rv ⟨xs, hx, hz, q⟩ => ?_⟩
  obtain ⟨a', ws, e', m1, m2, m3⟩ := E1.own_at hx
  rw [e] at e'
  cases e'
  have E2 := E1.write hx e (m3.append (.cons rv .nil))
  exact ⟨a, ws, v, rfl, rfl, m2, by rw [m3.length]; exact lim_lt hz, k _ (.d .none) F1 _ _ E2 e1 Rp.non q⟩
theorem we_extend {j : Nat} {zs : List PyData} (hj : ρ[j]? = some (some (.own zs))) (h : WD B K te ρ fun y ρ1 => ∃ xs ys, ρ1[j]? = some (some (.own xs)) ∧ y = .list ys ∧ xs.length + ys.length ≤ lim ∧ Q (.d .none) (ρ1.set j (some (.own (xs ++ ys))))) : WE B K (tBM K "list" rExtend (tVar j) (tCons te tNil)) ρ Q := fun F H σ E QQ k => by
  obtain ⟨a, vs, e, _, k2, _⟩ := E.own_at hj
  refine ⟨.ref a, e, .inl ⟨rfl, vs, .inl (.inl k2)⟩, h F H σ E _ fun v y F1 H1 ρ1 E1 e1 rv ⟨xs, ys, hx, hy, hz, q⟩ => ?_⟩
  subst hy
  obtain ⟨a', ws, e', m1, m2, m3⟩ := E1.own_at hx
  rw [e] at e'
  cases e'
  cases rv with
  | @lst b us ys hb rb =>
  have E2 := E1.write hx e (m3.append rb)
  exact ⟨a, b, ws, us, rfl, rfl, m2, E1.fh _ _ hb, by rw [m3.length, rb.length]; exact lim_le hz, k _ (.d .none) F1 _ _ E2 e1 Rp.non q⟩
theorem we_pop {j : Nat} {xs : List PyData} {y : PyData} (hj : ρ[j]? = some (some (.own xs))) (hy : xs[xs.length - 1]? = some y) (q : Q (.d y) (ρ.set j (some (.own xs.dropLast)))) : WE B K (tBM0 K "list" rPop (tVar j)) ρ Q := fun F H σ E QQ k => by
  obtain ⟨a, vs, e, k1, k2, k3⟩ := E.own_at hj
  obtain ⟨v, hv, rv⟩ := k3.get' hy
  rw [← k3.length] at hv
  exact ⟨.ref a, e, .inl ⟨rfl, vs, .inl (.inl k2)⟩, a, vs, v, rfl, rfl, k2, hv, k v (.d y) F _ _ (E.write hj e k3.dropLast) (Ex.refl F) rv q⟩
theorem we_popAt {j : Nat} {zs : List PyData} (hj : ρ[j]? = some (some (.own zs))) (h : WD B K te ρ fun x ρ1 => ∃ xs i n y, ρ1[j]? = some (some (.own xs)) ∧ x = .int i ∧ -(2 ^ 63) ≤ i ∧ i < 2 ^ 63 ∧ ixN xs.length i = some n ∧ xs[n]? = some y ∧ Q (.d y) (ρ1.set j (some (.own (xs.eraseIdx n))))) : WE B K (tBM K "list" rPopAt (tVar j) (tCons te tNil)) ρ Q := fun F H σ E QQ k => by
  obtain ⟨a, vs, e, _, k2, _⟩ := E.own_at hj
  refine ⟨.ref a, e, .inl ⟨rfl, vs, .inl (.inl k2)⟩, h F H σ E _ fun v x F1 H1 ρ1 E1 e1 rv ⟨xs, i, n, y, hx, hi, i1, i2, hn, hy, q⟩ => ?_⟩
  subst hi
  cases rv
  obtain ⟨a', ws, e', m1, m2, m3⟩ := E1.own_at hx
  rw [e] at e'
  cases e'
  obtain ⟨w, hw, rw'⟩ := m3.get' hy
  exact ⟨a, ws, i, n, w, rfl, rfl, m2, i1, i2, (ixN_seq (by rw [m3.length]; exact hn)).1, hw, k _ (.d y) F1 _ _ (E1.write hx e (m3.erase n)) e1 rw' q⟩

/-! ### statements -/
theorem ws_seq {t1 t2 : TS} (h : WS B K t1 ρ (Z.sq fun ρ' => WS B K t2 ρ' Z)) : WS B K (tSeq t1 t2) ρ Z := fun F H σ E D ok =>
  h F H σ E _ ⟨fun F' H' σ' ρ' E' e' q => q F' H' σ' E' D (ok.up e'), ok.rt, ok.bk, ok.ct⟩
theorem ws_next (q : Z.nx ρ) : WS B K tNext ρ Z := fun F H σ E D ok => ok.nx F H σ ρ E (Ex.refl F) q
theorem ws_brk (q : Z.bk ρ) : WS B K tBreak ρ Z := fun F H σ E D ok => ok.bk F H σ ρ E (Ex.refl F) q
theorem ws_cont (q : Z.ct ρ) : WS B K tCont ρ Z := fun F H σ E D ok => ok.ct F H σ ρ E (Ex.refl F) q
theorem ws_ret (h : WE B K te ρ fun r ρ' => Z.rt r ρ') : WS B K (tRet te) ρ Z := fun F H σ E D ok =>
  h F H σ E _ fun v r F' H' ρ' E' ef rv q => ok.rt F' H' σ ρ' v r E' ef rv q
theorem ws_retN (q : Z.rt (.d .none) ρ) : WS B K tRetN ρ Z := fun F H σ E D ok => ok.rt F H σ ρ .non (.d .none) E (Ex.refl F) Rp.non q
theorem ws_never (h : False) (t : TS) : WS B K t ρ Z := h.elim
def R.toL : R → Option L
  | .d x => some (.d x)
  | .new xs => some (.d (.list xs))
  | .scr ns => some (.scr ns)
  | .raw v => some (.raw v)
  | .deep t => if t.isD = true then some (.d t.data) else none
  | .newD _ _ => none
theorem slot_of {F H : Hp} {σ : St} (E : EnvOk B K F H σ ρ) {v : V} {r : R} {l : L} (rv : ROk B K F H σ ρ v r) (hl : r.toL = some l) : ∃ F', EnvOk B K F' H σ ρ ∧ Ex F F' ∧ SlotOk K F' H v l ∧ l.pl = true := by
  cases r with
  | d x => cases hl; exact ⟨F, E, Ex.refl F, rv, rfl⟩
  | new xs =>
    cases hl
    obtain ⟨F', E', e', r'⟩ := E.asD (r := .new xs) rv rfl
    exact ⟨F', E', e', r', rfl⟩
  | scr ns => cases hl; exact ⟨F, E, Ex.refl F, rv, rfl⟩
  | raw w => cases hl; exact ⟨F, E, Ex.refl F, rv, rfl⟩
  | newD ks xs => cases hl
  | deep t =>
    unfold R.toL at hl
    by_cases c : t.isD = true
    · simp only [c, if_true] at hl
      cases hl
      obtain ⟨F', E', e', r'⟩ := E.asD (r := .deep t) (x := t.data) rv (by unfold R.toD; simp only [c, if_true])
      exact ⟨F', E', e', r', rfl⟩
    · simp only [c] at hl
      cases hl
/-- name = e: data, the script, any value -/
theorem ws_asg {i : Nat} (hp : NP B i) (h : WE B K te ρ fun r ρ' => ∃ l, r.toL = some l ∧ Z.nx (ρ'.set i (some l))) : WS B K (tAsg te (gName i)) ρ Z := fun F H σ E D ok =>
  h F H σ E _ fun v r F' H' ρ' E' ef rv ⟨l, hl, q⟩ => by
    obtain ⟨F2, E2, e2, s2, n2⟩ := slot_of E' rv hl
    exact ok.nx F2 H' _ _ (E2.setD s2 n2 hp) (ef.trans e2) q
/-- name = e, a list that the frame will change -/
def tAsgO (te : TE) (i : Nat) : TS := tAsg te (gName i)
def R.toO : R → Option L
  | .new xs => some (.own xs)
  | .deep t => some (.deep t)
  | .newD ks xs => some (.ownD ks xs)
  | _ => none
theorem ws_asgO {i : Nat} (hp : NP B i) (h : WE B K te ρ fun r ρ' => ∃ l, r.toO = some l ∧ Z.nx (ρ'.set i (some l))) : WS B K (tAsgO te i) ρ Z := fun F H σ E D ok =>
  h F H σ E _ fun v r F' H' ρ' E' ef rv ⟨l, hr, q⟩ => by
    cases r with
    | new xs => cases hr; exact ok.nx F' H' _ _ (E'.setO rv hp) ef q
    | deep t => cases hr; exact ok.nx F' H' _ _ (E'.setT rv hp) ef q
    | newD ks xs => cases hr; exact ok.nx F' H' _ _ (E'.setND rv hp) ef q
    | _ => cases hr
theorem ws_if {tc : TT} {t u : TS} (h : WT B K tc ρ fun b ρ1 => (b = true → WS B K t ρ1 Z) ∧ (b = false → WS B K u ρ1 Z)) : WS B K (tIfS tc t u) ρ Z := fun F H σ E D ok =>
  h F H σ E _ fun b F1 H1 ρ1 E1 e1 q => by
    cases b with
    | true => exact q.1 rfl F1 H1 σ E1 D (ok.up e1)
    | false => exact q.2 rfl F1 H1 σ E1 D (ok.up e1)
theorem ws_drop (h : WE B K te ρ fun _ ρ' => Z.nx ρ') : WS B K (tDrop te) ρ Z := fun F H σ E D ok =>
  h F H σ E _ fun v r F' H' ρ' E' ef rv q => ok.nx F' H' σ ρ' E' ef q
theorem ws_mono {t : TS} {Z' : Zs} (h : WS B K t ρ Z') (n : ∀ ρ, Z'.nx ρ → Z.nx ρ) (r : ∀ r ρ, Z'.rt r ρ → Z.rt r ρ) (b : ∀ ρ, Z'.bk ρ → Z.bk ρ) (c : ∀ ρ, Z'.ct ρ → Z.ct ρ) : WS B K t ρ Z := fun F H σ E D ok =>
  h F H σ E D ⟨fun F H σ ρ E e q => ok.nx F H σ ρ E e (n _ q), fun F H σ ρ v x E e rv q => ok.rt F H σ ρ v x E e rv (r _ _ q), fun F H σ ρ E e q => ok.bk F H σ ρ E e (b _ q), fun F H σ ρ E e q => ok.ct F H σ ρ E e (c _ q)⟩
/-- the ways through t meet at P -/
theorem ws_cut {t : TS} (P : En → Prop) (h : WS B K t ρ (Z.sq P)) (i : ∀ ρ', P ρ' → Z.nx ρ') : WS B K t ρ Z := ws_mono h i (fun _ _ q => q) (fun _ q => q) fun _ q => q
/-- name += e -/
theorem ws_aug {i : Nat} {g : Int → Int → Int} (hp : NP B i) {x : Int} (hi : ρ[i]? = some (some (.d (.int x)))) (h : WD B K te ρ fun y ρ1 => ∃ j, y = .int j ∧ Z.nx (ρ1.set i (some (.d (.int (g x j)))))) : WS B K (tAug i te (ipI g)) ρ Z := fun F H σ E D ok => by
  obtain ⟨v, e, s⟩ := E.sl i _ hi
  cases (show Rp K F v (.int x) from s)
  exact ⟨_, e, h F H σ E _ fun u y F1 H1 ρ1 E1 e1 ru ⟨j, hy, q⟩ => by
    subst hy
    cases ru
    exact ⟨x, j, rfl, rfl, ok.nx F1 H1 _ _ (E1.setD (l := .d (.int (g x j))) (Rp.int _) rfl hp) e1 q⟩⟩
/-- o[i] = e of an own list -/
theorem ws_setItem {ti : TE} {j : Nat} (h : WD B K te ρ fun x ρ1 => (∃ zs, ρ1[j]? = some (some (.own zs))) ∧ WD B K ti ρ1 fun y ρ2 => ∃ xs i n, ρ2[j]? = some (some (.own xs)) ∧ y = .int i ∧ ixN xs.length i = some n ∧ Z.nx (ρ2.set j (some (.own (xs.set n x))))) :
    WS B K (tAsg te (gSub (tVar j) ti rSetL)) ρ Z := fun F H σ E D ok =>
  h F H σ E _ fun v x F1 H1 ρ1 E1 e1 rv ⟨⟨zs, hz⟩, q⟩ => by
    obtain ⟨a, vs, e, _⟩ := E1.own_at hz
    refine ⟨.ref a, e, q F1 H1 σ E1 _ fun u y F2 H2 ρ2 E2 e2 ru ⟨xs, i, n, hx, hy, hn, q2⟩ => ?_⟩
    subst hy
    cases ru
    obtain ⟨a', ws, e', m1, m2, m3⟩ := E2.own_at hx
    rw [e] at e'
    cases e'
    exact ⟨a, ws, i, n, rfl, rfl, m2, by rw [m3.length]; exact hn, ok.nx F2 _ _ _ (E2.write hx e (m3.set n (Rp.mono e2 rv))) (e1.trans e2) q2⟩

/-! ### targets -/
def WG (B : Bs) (K : Fr) (g : TG) (x : PyData) (ρ : En) (Q : En → Prop) : Prop := ∀ F H σ v, EnvOk B K F H σ ρ → Rp K F v x → ∀ QQ : L2.St → Hp → Prop, (∀ F' H' σ' ρ', EnvOk B K F' H' σ' ρ' → Ex F F' → Q ρ' → QQ σ' H') → g v σ H QQ
def WGs (B : Bs) (K : Fr) (g : TGs) (xs : List PyData) (ρ : En) (Q : En → Prop) : Prop := ∀ F H σ vs, EnvOk B K F H σ ρ → RpA K F vs xs → ∀ QQ : L2.St → Hp → Prop, (∀ F' H' σ' ρ', EnvOk B K F' H' σ' ρ' → Ex F F' → Q ρ' → QQ σ' H') → g vs σ H QQ
theorem wg_name {i : Nat} {x : PyData} {q : En → Prop} (hp : NP B i) (h : q (ρ.set i (some (.d x)))) : WG B K (gName i) x ρ q := fun F H σ v E rv QQ k =>
  k F H _ _ (E.setD (l := .d x) rv rfl hp) (Ex.refl F) h
theorem wgs_nil {q : En → Prop} (h : q ρ) : WGs B K gNil [] ρ q := fun F H σ vs E rv QQ k => by
  cases rv
  exact ⟨rfl, k F H σ ρ E (Ex.refl F) h⟩
theorem wgs_cons {g : TG} {gs : TGs} {x : PyData} {xs : List PyData} {q : En → Prop} (h : WG B K g x ρ fun ρ1 => WGs B K gs xs ρ1 q) : WGs B K (gCons g gs) (x :: xs) ρ q := fun F H σ vs E rv QQ k => by
  cases rv with
  | cons r1 r2 => exact ⟨_, _, rfl, h F H σ _ E r1 _ fun F' H' σ' ρ' E' e' q' => q' F' H' σ' _ E' (r2.mono e') QQ fun F2 H2 σ2 ρ2 E2 e2 q2 => k F2 H2 σ2 ρ2 E2 (e'.trans e2) q2⟩
theorem wg_tup {n : Nat} {gs : TGs} {xs : List PyData} {q : En → Prop} (hn : xs.length = n) (h : WGs B K gs xs ρ q) : WG B K (gTup K n gs) (.tuple xs) ρ q := fun F H σ v E rv QQ k => by
  cases rv with
  | @tup a vs xs ha ra => exact ⟨a, vs, rfl, E.fh.stt ha, by rw [ra.length]; exact hn, h F H σ vs E ra QQ k⟩
theorem ws_asgG {g : TG} (h : WD B K te ρ fun x ρ' => WG B K g x ρ' Z.nx) : WS B K (tAsg te g) ρ Z := fun F H σ E D ok =>
  h F H σ E _ fun v x F' H' ρ' E' ef rv q => q F' H' σ v E' rv _ fun F2 H2 σ2 ρ2 E2 e2 q2 => ok.nx F2 H2 σ2 ρ2 E2 (ef.trans e2) q2
/-- a, b = x, y of plain local names -/
theorem ws_par {i j : Nat} (hi : NP B i) (hj : NP B j) (h : WDs B K tl ρ fun xs ρ' => ∃ x y, xs = [x, y] ∧ Z.nx ((ρ'.set i (some (.d x))).set j (some (.d y)))) : WS B K (tPar i j tl) ρ Z := fun F H σ E D ok =>
  h F H σ E _ fun vs xs F' H' ρ' E' ef rv ⟨x, y, hx, q⟩ => by
    subst hx
    cases rv with
    | cons r1 r2 =>
      cases r2 with
      | cons r2 r3 =>
        cases r3
        exact ⟨_, _, rfl, ok.nx F' H' _ _ ((E'.setD (l := .d x) r1 rfl hi).setD (l := .d y) r2 rfl hj) ef q⟩

/-! ### loops -/
theorem take_snoc {α : Type} {as : List α} {i : Nat} {a : α} (h : as[i]? = some a) : as.take (i + 1) = as.take i ++ [a] := by
  rw [List.take_add_one, h]
  rfl
theorem split_at {α : Type} {as : List α} {i : Nat} {a : α} (h : as[i]? = some a) : as = as.take i ++ a :: as.drop (i + 1) := by
  obtain ⟨hi, e⟩ := List.getElem?_eq_some_iff.mp h
  rw [← e, ← List.drop_eq_getElem_cons hi, List.take_append_drop]
/-- what a loop over the items as wants -/
def Loop {α : Type} (B : Bs) (K : Fr) (g : TG) (tb : TS) (f : α → PyData) (as : List α) (ρ : En) (Z : Zs) : Prop :=
  ∃ I : List α → En → Prop, I [] ρ ∧ (∀ pre a post ρ2, as = pre ++ a :: post → I pre ρ2 → WG B K g (f a) ρ2 fun ρ3 => WS B K tb ρ3 (Z.lp (I (pre ++ [a])))) ∧ ∀ ρ2, I as ρ2 → Z.nx ρ2
theorem ws_forL {α : Type} {g : TG} {tb : TS} (f : α → PyData) (h : WD B K te ρ fun x ρ1 => ∃ as : List α, x = .list (as.map f) ∧ Loop B K g tb f as ρ1 Z) : WS B K (tFor (iList K te) g tb) ρ Z := fun F H σ E D ok =>
  h F H σ E _ fun v x F1 H1 ρ1 E1 e1 rv ⟨as, hx, I, i0, is, id⟩ => by
    subst hx
    cases rv with
    | @lst a vs xs ha ra =>
    have hl : vs.length = as.length := by rw [ra.length, List.length_map]
    refine ⟨a, rfl, ⟨vs, .inl (.inl (E1.fh _ _ ha))⟩, for_list (xs := vs) (fun i σ H => ∃ F ρ, EnvOk B K F H σ ρ ∧ Ex F1 F ∧ I (as.take i) ρ) ⟨F1, ρ1, E1, Ex.refl F1, i0⟩ (fun i σ H _ ⟨F2, ρ2, E2, e2, _⟩ => .inl (.inl (E2.fh _ _ (e2 _ _ ha)))) (fun i w σ2 H2 hw ⟨F2, ρ2, E2, e2, q⟩ => ?_) fun σ2 H2 ⟨F2, ρ2, E2, e2, q⟩ => ok.nx F2 H2 σ2 ρ2 E2 (e1.trans e2) (id ρ2 (by rw [hl, List.take_length] at q; exact q))⟩
    obtain ⟨d, hd, rd⟩ := ra.get hw
    rw [List.getElem?_map] at hd
    cases ea : as[i]? with
    | none => rw [ea] at hd; cases hd
    | some b =>
    rw [ea] at hd
    cases hd
    exact is (as.take i) b (as.drop (i + 1)) ρ2 (split_at ea) q F2 H2 σ2 w E2 (Rp.mono e2 rd) _ fun F3 H3 σ3 ρ3 E3 e3 q3 => q3 F3 H3 σ3 E3 _
      ⟨fun F4 H4 σ4 ρ4 E4 e4 q4 => ⟨F4, ρ4, E4, e2.trans (e3.trans e4), by rw [take_snoc ea]; exact q4⟩, fun F4 H4 σ4 ρ4 v4 r4 E4 e4 rv4 q4 => ok.rt F4 H4 σ4 ρ4 v4 r4 E4 (e1.trans (e2.trans (e3.trans e4))) rv4 q4,
       fun F4 H4 σ4 ρ4 E4 e4 q4 => ok.nx F4 H4 σ4 ρ4 E4 (e1.trans (e2.trans (e3.trans e4))) q4, fun F4 H4 σ4 ρ4 E4 e4 q4 => ⟨F4, ρ4, E4, e2.trans (e3.trans e4), by rw [take_snoc ea]; exact q4⟩⟩
end
end SV

set_option maxHeartbeats 1000000
namespace SV
open PySem PySem.Spec L2
open Evl (Ex)
variable [Tbs]
section
variable {B : Bs} {K : Fr} {ρ : En} {ta tb te : TE} {tt : TT} {tr tl : TA} {Q : R → En → Prop} {QD : PyData → En → Prop} {QT : Bool → En → Prop} {QA : List Ar → En → Prop} {Z : Zs}

/-! ### loops of any kind -/
theorem loop_gen {α : Type} {J : It} {g : TG} {tS : TS} {f : α → PyData} {as : List α} {F0 F1 H1 : Hp} {σ : L2.St} {ρ1 : En} {D : Ends} (C : En → Prop) (E1 : EnvOk B K F1 H1 σ ρ1) (e1 : Ex F0 F1) (ok : ZOk B K F0 Z D)
    (go : ∀ (i : Nat) (a : α) F H σ ρ, as[i]? = some a → EnvOk B K F H σ ρ → Ex F1 F → C ρ → J.go i H)
    (stop : ∀ (i : Nat) F H σ ρ, as.length ≤ i → EnvOk B K F H σ ρ → Ex F1 F → C ρ → J.stop i H)
    (yld : ∀ (i : Nat) (a : α) F H σ ρ x H', as[i]? = some a → EnvOk B K F H σ ρ → Ex F1 F → C ρ → J.yld i H x H' → ∃ F', EnvOk B K F' H' σ ρ ∧ Ex F F' ∧ Rp K F' x (f a))
    (I : List α → En → Prop) (ic : ∀ pre ρ, I pre ρ → C ρ) (i0 : I [] ρ1) (is : ∀ pre a post ρ2, as = pre ++ a :: post → I pre ρ2 → WG B K g (f a) ρ2 fun ρ3 => WS B K tS ρ3 (Z.lp (I (pre ++ [a])))) (id : ∀ ρ2, I as ρ2 → Z.nx ρ2) :
    ∃ W : Nat → Nat → L2.St → Hp → Prop, (∃ m, W 0 m σ H1) ∧ ∀ i m σ H, W i m σ H →
      (J.stop i H ∧ D.nx σ H) ∨ (J.go i H ∧ ∃ N : L2.St → Hp → Prop, (∀ σ' H', N σ' H' → ∃ m', m' < m ∧ W (i + 1) m' σ' H') ∧ ∀ x H', J.yld i H x H' → g x σ H' fun σ2 H2 => tS { D with nx := N, ct := N, bk := D.nx } σ2 H2) := by
  refine ⟨fun i m σ H => m = as.length - i ∧ i ≤ as.length ∧ ∃ F ρ, EnvOk B K F H σ ρ ∧ Ex F1 F ∧ I (as.take i) ρ, ⟨as.length, (Nat.sub_zero _).symm, Nat.zero_le _, F1, ρ1, E1, Ex.refl F1, i0⟩, ?_⟩
  rintro i m σ2 H2 ⟨rfl, hi, F2, ρ2, E2, e2, q⟩
  by_cases hlt : i < as.length
  · have ea : as[i]? = some as[i] := List.getElem?_eq_getElem hlt
    refine .inr ⟨go i _ F2 H2 σ2 ρ2 ea E2 e2 (ic _ _ q), fun σ' H' => ∃ F ρ, EnvOk B K F H' σ' ρ ∧ Ex F1 F ∧ I (as.take (i + 1)) ρ, fun σ' H' p' => ⟨as.length - (i + 1), by omega, rfl, hlt, p'⟩, fun x H' y => ?_⟩
    obtain ⟨F', E', e', rx⟩ := yld i _ F2 H2 σ2 ρ2 x H' ea E2 e2 (ic _ _ q) y
    exact is (as.take i) as[i] (as.drop (i + 1)) ρ2 (split_at ea) q F' H' σ2 x E' rx _ fun F3 H3 σ3 ρ3 E3 e3 q3 => q3 F3 H3 σ3 E3 _
      ⟨fun F4 H4 σ4 ρ4 E4 e4 q4 => ⟨F4, ρ4, E4, e2.trans (e'.trans (e3.trans e4)), by rw [take_snoc ea]; exact q4⟩, fun F4 H4 σ4 ρ4 v4 r4 E4 e4 rv4 q4 => ok.rt F4 H4 σ4 ρ4 v4 r4 E4 (e1.trans (e2.trans (e'.trans (e3.trans e4)))) rv4 q4,
       fun F4 H4 σ4 ρ4 E4 e4 q4 => ok.nx F4 H4 σ4 ρ4 E4 (e1.trans (e2.trans (e'.trans (e3.trans e4)))) q4, fun F4 H4 σ4 ρ4 E4 e4 q4 => ⟨F4, ρ4, E4, e2.trans (e'.trans (e3.trans e4)), by rw [take_snoc ea]; exact q4⟩⟩
  · have e : i = as.length := by omega
    subst e
    exact .inl ⟨stop _ F2 H2 σ2 ρ2 (Nat.le_refl _) E2 e2 (ic _ _ q), ok.nx F2 H2 σ2 ρ2 E2 (e1.trans e2) (id ρ2 (by rw [List.take_length] at q; exact q))⟩
theorem at_map {α : Type} {K : Fr} {F : Hp} {f : α → PyData} {as : List α} {vs : List V} {i : Nat} {a : α} {v : V} (ra : RpA K F vs (as.map f)) (ea : as[i]? = some a) (hv : vs[i]? = some v) : Rp K F v (f a) := by
  obtain ⟨d, hd, rd⟩ := ra.get hv
  rw [List.getElem?_map, ea] at hd
  cases hd
  exact rd
theorem at_map' {α : Type} {K : Fr} {F : Hp} {f : α → PyData} {as : List α} {vs : List V} {i : Nat} {a : α} (ra : RpA K F vs (as.map f)) (ea : as[i]? = some a) : ∃ v, vs[i]? = some v ∧ Rp K F v (f a) := by
  have hd : (as.map f)[i]? = some (f a) := by rw [List.getElem?_map, ea]; rfl
  exact ra.get' hd
/-- over a tuple -/
theorem ws_forT {α : Type} {g : TG} {tS : TS} (f : α → PyData) (h : WD B K te ρ fun x ρ1 => ∃ as : List α, x = .tuple (as.map f) ∧ Loop B K g tS f as ρ1 Z) : WS B K (tFor (iTup K te) g tS) ρ Z := fun F H σ E D ok =>
  h F H σ E _ fun v x F1 H1 ρ1 E1 e1 rv ⟨as, hx, I, i0, is, id⟩ => by
    subst hx
    cases rv with
    | @tup a vs xs ha ra =>
    have hl : vs.length = as.length := by rw [ra.length, List.length_map]
    refine ⟨a, rfl, ⟨vs, E1.fh.stt ha⟩, loop_gen (f := f) (as := as) (fun _ => True) E1 e1 ok (fun i b F2 H2 σ2 ρ2 ea E2 e2 _ => ?_) (fun i F2 H2 σ2 ρ2 hi E2 e2 _ => ⟨vs, E2.fh.stt (e2.stt ha), by omega⟩) (fun i b F2 H2 σ2 ρ2 y H' ea E2 e2 _ hy => ?_) I (fun _ _ _ => trivial) i0 is id⟩
    · obtain ⟨w, hw, _⟩ := at_map' ra ea
      exact ⟨vs, w, E2.fh.stt (e2.stt ha), hw⟩
    · obtain ⟨rfl, hy⟩ := hy
      exact ⟨F2, E2, Ex.refl F2, Rp.mono e2 (at_map ra ea (hy vs (E2.fh.stt (e2.stt ha))))⟩
/-- over a list that the frame owns and leaves as it is -/
theorem ws_forO {α : Type} {g : TG} {tS : TS} (f : α → PyData) {j : Nat} {as : List α} (hj : ρ[j]? = some (some (.own (as.map f)))) (I : List α → En → Prop) (ic : ∀ pre ρ', I pre ρ' → ρ'[j]? = some (some (.own (as.map f))) ∧ True) (i0 : I [] ρ)
    (is : ∀ pre a post ρ2, as = pre ++ a :: post → I pre ρ2 → WG B K g (f a) ρ2 fun ρ3 => WS B K tS ρ3 (Z.lp (I (pre ++ [a])))) (id : ∀ ρ2, I as ρ2 → Z.nx ρ2) (keep : ∀ F H σ ρ', EnvOk B K F H σ ρ' → ρ'[j]? = some (some (.own (as.map f))) → ∀ a, B.pin = some (j, a) → σ[j]? = some (some (.ref a))) (np : ∃ a, B.pin = some (j, a)) : WS B K (tFor (iList K (tVar j)) g tS) ρ Z := fun F H σ E D ok => by
  obtain ⟨a, ha⟩ := np
  have sj : ∀ {F H σ ρ}, EnvOk B K F H σ ρ → σ[j]? = some (some (.ref a)) := fun E => (E.pin j a ha).1
  obtain ⟨a', vs, e, _, k2, k3⟩ := E.own_at hj
  refine ⟨.ref a', e, a', rfl, ⟨vs, .inl (.inl k2)⟩, ?_⟩
  rw [sj E] at e
  cases e
  refine loop_gen (f := f) (as := as) (fun ρ' => ρ'[j]? = some (some (.own (as.map f)))) E (Ex.refl F) ok (fun i b F2 H2 σ2 ρ2 ea E2 e2 c => ?_) (fun i F2 H2 σ2 ρ2 hi E2 e2 c => ?_) (fun i b F2 H2 σ2 ρ2 y H' ea E2 e2 c hy => ?_) I (fun pre ρ' q => (ic pre ρ' q).1) i0 is id
  all_goals obtain ⟨b', ws, e', _, m2, m3⟩ := E2.own_at c
  all_goals rw [sj E2] at e'
  all_goals cases e'
  · obtain ⟨w, hw, _⟩ := at_map' m3 ea
    exact ⟨ws, w, .inl (.inl m2), hw⟩
  · exact ⟨ws, .inl (.inl m2), by rw [m3.length, List.length_map]; exact hi⟩
  · obtain ⟨rfl, hy⟩ := hy
    exact ⟨F2, E2, Ex.refl F2, at_map m3 ea (hy ws (.inl (.inl m2)))⟩
/-- sign by sign -/
def strD (c : Nat) : PyData := .str ⟨#[c]⟩
theorem ws_forS {g : TG} {tS : TS} (h : WD B K te ρ fun x ρ1 => ∃ z : Str, x = .str z ∧ Loop B K g tS strD z.cps.toList ρ1 Z) : WS B K (tFor (iStr te) g tS) ρ Z := fun F H σ E D ok =>
  h F H σ E _ fun v x F1 H1 ρ1 E1 e1 rv ⟨z, hx, I, i0, is, id⟩ => by
    subst hx
    cases rv
    refine ⟨z, rfl, loop_gen (f := strD) (as := z.cps.toList) (fun _ => True) E1 e1 ok (fun i b F2 H2 σ2 ρ2 ea E2 e2 _ => ?_) (fun i F2 H2 σ2 ρ2 hi E2 e2 _ => ?_) (fun i b F2 H2 σ2 ρ2 y H' ea E2 e2 _ hy => ?_) I (fun _ _ _ => trivial) i0 is id⟩
    · show i < z.cps.size
      rw [← Array.length_toList]
      exact (List.getElem?_eq_some_iff.mp ea).1
    · show z.cps.size ≤ i
      rw [← Array.length_toList]
      exact hi
    · obtain ⟨rfl, c, hc, rfl⟩ := hy
      rw [Array.getElem?_toList, hc] at ea
      cases ea
      exact ⟨F2, E2, Ex.refl F2, Rp.str _⟩
/-- over the script -/
theorem ws_forScr {g : TG} {tS : TS} {j : Nat} {ns : List Int} (hj : ρ[j]? = some (some (.scr ns))) (h : Loop B K g tS PyData.int ns ρ Z) : WS B K (tFor (iList K (tVar j)) g tS) ρ Z := fun F H σ E D ok => by
  obtain ⟨I, i0, is, id⟩ := h
  obtain ⟨v, e, a, hv, hs⟩ := E.sl j _ hj
  subst hv
  refine ⟨.ref a, e, a, rfl, ⟨_, E.fh.sl hs⟩, loop_gen (f := PyData.int) (as := ns) (fun _ => True) E (Ex.refl F) ok (fun i b F2 H2 σ2 ρ2 ea E2 e2 _ => ?_) (fun i F2 H2 σ2 ρ2 hi E2 e2 _ => ⟨_, E2.fh.sl (e2.sl hs), by rw [List.length_map]; exact hi⟩) (fun i b F2 H2 σ2 ρ2 y H' ea E2 e2 _ hy => ?_) I (fun _ _ _ => trivial) i0 is id⟩
  · exact ⟨_, .int b, E2.fh.sl (e2.sl hs), by rw [List.getElem?_map, ea]; rfl⟩
  · obtain ⟨rfl, hy⟩ := hy
    have q := hy _ (E2.fh.sl (e2.sl hs))
    rw [List.getElem?_map, ea] at q
    cases q
    exact ⟨F2, E2, Ex.refl F2, Rp.int _⟩
/-- over range(n), range(a, b): the turns 0, 1, .. -/
def ixs (lo : Int) (n : Nat) : List Int := (List.range n).map fun (k : Nat) => lo + (k : Int)
theorem ixs_at {lo : Int} {n i : Nat} : (ixs lo n)[i]? = if i < n then some (lo + (i : Int)) else none := by
  unfold ixs
  rw [List.getElem?_map]
  by_cases h : i < n
  · rw [List.getElem?_range h, if_pos h]; rfl
  · rw [List.getElem?_eq_none (by rw [List.length_range]; omega), if_neg h]; rfl
theorem ixs_len {lo : Int} {n : Nat} : (ixs lo n).length = n := by unfold ixs; rw [List.length_map, List.length_range]
theorem for_itr {g : TG} {tS : TS} {lo : Int} {n : Nat} {F0 F1 H1 : Hp} {σ : L2.St} {ρ1 : En} {D : Ends} (E1 : EnvOk B K F1 H1 σ ρ1) (e1 : Ex F0 F1) (ok : ZOk B K F0 Z D) (h : Loop B K g tS PyData.int (ixs lo n) ρ1 Z) :
    ∃ W : Nat → Nat → L2.St → Hp → Prop, (∃ m, W 0 m σ H1) ∧ ∀ i m σ H, W i m σ H →
      ((Itr lo n).stop i H ∧ D.nx σ H) ∨ ((Itr lo n).go i H ∧ ∃ N : L2.St → Hp → Prop, (∀ σ' H', N σ' H' → ∃ m', m' < m ∧ W (i + 1) m' σ' H') ∧ ∀ x H', (Itr lo n).yld i H x H' → g x σ H' fun σ2 H2 => tS { D with nx := N, ct := N, bk := D.nx } σ2 H2) := by
  obtain ⟨I, i0, is, id⟩ := h
  refine loop_gen (f := PyData.int) (as := ixs lo n) (fun _ => True) E1 e1 ok (fun i b F2 H2 σ2 ρ2 ea E2 e2 _ => ?_) (fun i F2 H2 σ2 ρ2 hi E2 e2 _ => ?_) (fun i b F2 H2 σ2 ρ2 y H' ea E2 e2 _ hy => ?_) I (fun _ _ _ => trivial) i0 is id
  · have := (List.getElem?_eq_some_iff.mp ea).1
    rw [ixs_len] at this
    exact this
  · rw [ixs_len] at hi
    exact hi
  · obtain ⟨rfl, rfl⟩ := hy
    rw [ixs_at] at ea
    split at ea
    · cases ea
      exact ⟨F2, E2, Ex.refl F2, Rp.int _⟩
    · cases ea
theorem ws_for1 {g : TG} {tS : TS} (h : WD B K te ρ fun x ρ1 => ∃ n : Int, x = .int n ∧ -1000000 ≤ n ∧ n ≤ 1000000 ∧ Loop B K g tS PyData.int (ixs 0 n.toNat) ρ1 Z) : WS B K (tFor (iRng1 (tCons te tNil)) g tS) ρ Z := fun F H σ E D ok =>
  h F H σ E _ fun v x F1 H1 ρ1 E1 e1 rv ⟨n, hx, n0, n1, q⟩ => by
    subst hx
    cases rv
    exact ⟨n, rfl, by omega, by omega, for_itr E1 e1 ok q⟩
theorem ws_for2 {g : TG} {tS : TS} (h : WD B K ta ρ fun x ρ1 => ∃ m : Int, x = .int m ∧ WD B K tb ρ1 fun y ρ2 => ∃ n : Int, y = .int n ∧ (-1000000 ≤ m ∧ m ≤ 1000000 ∧ -1000000 ≤ n ∧ n ≤ 1000000) ∧ Loop B K g tS PyData.int (ixs m (n - m).toNat) ρ2 Z) : WS B K (tFor (iRng2 (tCons ta (tCons tb tNil))) g tS) ρ Z := fun F H σ E D ok =>
  h F H σ E _ fun v x F1 H1 ρ1 E1 e1 rv ⟨m, hx, q⟩ => q F1 H1 σ E1 _ fun u y F2 H2 ρ2 E2 e2 ru ⟨n, hy, ⟨n0, n1, n2, n3⟩, q⟩ => by
    subst hx hy
    cases rv; cases ru
    exact ⟨m, n, rfl, ⟨by omega, by omega, by omega, by omega⟩, for_itr E2 (e1.trans e2) ok q⟩
/-! ### while -/
theorem ws_while {c : TT} {tS : TS} (W : Nat → En → Prop) (h0 : ∃ m, W m ρ) (hs : ∀ m ρ1, W m ρ1 → WT B K c ρ1 fun b ρ2 => (b = true → WS B K tS ρ2 (Z.lp fun ρ' => ∃ m', m' < m ∧ W m' ρ')) ∧ (b = false → Z.nx ρ2)) :
    WS B K (tWhile c tS) ρ Z := fun F H σ E D ok => by
  obtain ⟨m0, w0⟩ := h0
  refine ⟨fun m σ H => ∃ F' ρ', EnvOk B K F' H σ ρ' ∧ Ex F F' ∧ W m ρ', ⟨m0, F, ρ, E, Ex.refl F, w0⟩, ?_⟩
  rintro m σ1 H1 ⟨F1, ρ1, E1, e1, w1⟩
  refine hs m ρ1 w1 F1 H1 σ1 E1 _ fun b F2 H2 ρ2 E2 e2 q => ?_
  have e12 := e1.trans e2
  cases b with
  | false => exact ok.nx F2 H2 σ1 ρ2 E2 e12 (q.2 rfl)
  | true =>
    refine ⟨fun σ' H' => ∃ m', m' < m ∧ ∃ F' ρ', EnvOk B K F' H' σ' ρ' ∧ Ex F F' ∧ W m' ρ', fun _ _ z => z, ?_⟩
    exact q.1 rfl F2 H2 σ1 E2 _ ⟨fun F3 H3 σ3 ρ3 E3 e3 ⟨m', l, w⟩ => ⟨m', l, F3, ρ3, E3, e12.trans e3, w⟩, fun F3 H3 σ3 ρ3 v r E3 e3 rv q3 => ok.rt F3 H3 σ3 ρ3 v r E3 (e12.trans e3) rv q3,
      fun F3 H3 σ3 ρ3 E3 e3 q3 => ok.nx F3 H3 σ3 ρ3 E3 (e12.trans e3) q3, fun F3 H3 σ3 ρ3 E3 e3 ⟨m', l, w⟩ => ⟨m', l, F3, ρ3, E3, e12.trans e3, w⟩⟩

/-! ### comprehensions -/
inductive Sel {α : Type} (P : α → Option PyData → Prop) : List α → List PyData → Prop
  | nil : Sel P [] []
  | yes {a : α} {as : List α} {y : PyData} {ys : List PyData} : Sel P as ys → P a (some y) → Sel P (as ++ [a]) (ys ++ [y])
  | no {a : α} {as : List α} {ys : List PyData} : Sel P as ys → P a none → Sel P (as ++ [a]) ys
theorem Sel.len {α : Type} {P : α → Option PyData → Prop} {as : List α} {ys : List PyData} (s : Sel P as ys) : ys.length ≤ as.length := by
  induction s with
  | nil => exact Nat.le_refl _
  | yes _ _ ih => rw [List.length_append, List.length_append]; exact Nat.add_le_add_right ih 1
  | no _ _ ih => rw [List.length_append]; exact Nat.le_add_right_of_le ih
/-- all items, each by a function -/
theorem Sel.map {α : Type} {f : α → PyData} {as : List α} {ys : List PyData} (s : Sel (fun a o => o = some (f a)) as ys) : ys = as.map f := by
  induction s with
  | nil => rfl
  | yes _ h ih => cases h; rw [ih, List.map_append]; rfl
  | no _ h => cases h
/-- the items that pass a test, each by a function -/
theorem Sel.filter {α : Type} {f : α → PyData} {p : α → Bool} {as : List α} {ys : List PyData} (s : Sel (fun a o => o = if p a = true then some (f a) else none) as ys) : ys = (as.filter p).map f := by
  induction s with
  | nil => rfl
  | @yes a as y ys _ h ih =>
    rw [ih, List.filter_append, List.map_append]
    by_cases c : p a = true
    · rw [if_pos c] at h
      cases h
      rw [List.filter_cons_of_pos c]
      rfl
    · rw [if_neg c] at h
      cases h
  | @no a as ys _ h ih =>
    rw [ih, List.filter_append, List.map_append]
    by_cases c : p a = true
    · rw [if_pos c] at h
      cases h
    · rw [List.filter_cons_of_neg c]
      simp
/-! the targets of a comprehension: names, a tuple of names -/
inductive GVs : TGs → List Nat → Prop
  | nil : GVs gNil []
  | cons {gs : TGs} {vs : List Nat} (i : Nat) : GVs gs vs → GVs (gCons (gName i) gs) (i :: vs)
inductive GV : TG → List Nat → Prop
  | name (i : Nat) : GV (gName i) [i]
  | tup {K : Fr} {n : Nat} {gs : TGs} {vs : List Nat} : GVs gs vs → GV (gTup K n gs) vs
theorem GVs.stay {gs : TGs} {vs : List Nat} (gv : GVs gs vs) : ∀ {xs : List V} {σ : L2.St} {H : Hp} {QQ QQ' : L2.St → Hp → Prop}, gs xs σ H QQ → (∀ (σ' : L2.St) H', σ'.length = σ.length → (∀ k, k ∉ vs → σ'[k]? = σ[k]?) → QQ σ' H' → QQ' σ' H') → gs xs σ H QQ' := by
  induction gv with
  | nil => intro xs σ H QQ QQ' h c; exact ⟨h.1, c σ H rfl (fun _ _ => rfl) h.2⟩
  | @cons gs vs i _ ih =>
    intro xs σ H QQ QQ' h c
    obtain ⟨v, r, e, h⟩ := h
    refine ⟨v, r, e, ?_⟩
    refine ih (show gs r (σ.set i (some v)) H QQ from h) fun σ' H' hl hk q => c σ' H' (by rw [hl, List.length_set]) (fun k hn => ?_) q
    rw [hk k fun z => hn (List.mem_cons_of_mem _ z), List.getElem?_set_ne fun z => hn (by rw [z]; exact List.mem_cons_self)]
theorem GV.stay {g : TG} {vs : List Nat} (gv : GV g vs) {x : V} {σ : L2.St} {H : Hp} {QQ QQ' : L2.St → Hp → Prop} (h : g x σ H QQ) (c : ∀ (σ' : L2.St) H', σ'.length = σ.length → (∀ k, k ∉ vs → σ'[k]? = σ[k]?) → QQ σ' H' → QQ' σ' H') : g x σ H QQ' := by
  cases gv with
  | name i => exact c _ H (List.length_set ..) (fun k hn => List.getElem?_set_ne fun z => hn (by rw [z]; exact List.mem_cons_self)) h
  | tup gs =>
    obtain ⟨a, xs, e, hs, hn, q⟩ := h
    exact ⟨a, xs, e, hs, hn, gs.stay q c⟩
theorem wipe_in {σ : L2.St} {k : Nat} : ∀ {vs : List Nat}, k ∈ vs → k < σ.length → (wipe σ vs)[k]? = some none
  | v :: vs, h, hk => by
    show ((wipe σ vs).set v none)[k]? = some none
    by_cases e : v = k
    · subst e
      rw [List.getElem?_set_self (by rw [wipe_length]; exact hk)]
    · rw [List.getElem?_set_ne e]
      exact wipe_in ((List.mem_cons.mp h).resolve_left fun z => e z.symm) hk
theorem wipe_eq {σ τ : L2.St} {vs : List Nat} (hl : τ.length = σ.length) (h : ∀ k, k ∉ vs → τ[k]? = (wipe σ vs)[k]?) : wipe τ vs = wipe σ vs := by
  refine List.ext_getElem? fun k => ?_
  by_cases hk : k ∈ vs
  · by_cases hl2 : k < σ.length
    · rw [wipe_in hk hl2, wipe_in hk (by rw [hl]; exact hl2)]
    · rw [List.getElem?_eq_none (by rw [wipe_length]; omega), List.getElem?_eq_none (by rw [wipe_length]; omega)]
  · rw [wipe_out hk, h k hk]
def hideO : Option L → Option L
  | some (.own _) => none
  | some (.deep _) => none
  | some (.ownD _ _) => none
  | o => o
def hide (ρ : En) : En := ρ.map hideO
def wipeE (ρ : En) : List Nat → En
  | [] => ρ
  | v :: vs => (wipeE ρ vs).set v none
theorem hide_at {ρ : En} {i : Nat} {l : L} (h : (hide ρ)[i]? = some (some l)) : ρ[i]? = some (some l) ∧ l.pl = true := by
  unfold hide at h
  rw [List.getElem?_map] at h
  cases e : ρ[i]? with
  | none => rw [e] at h; cases h
  | some o =>
    rw [e] at h
    have h' : hideO o = some l := Option.some.inj h
    cases o with
    | none => cases h'
    | some l' =>
      cases l' with
      | own xs => cases h'
      | deep t => cases h'
      | ownD ks xs => cases h'
      | d x => cases h'; exact ⟨rfl, rfl⟩
      | scr x => cases h'; exact ⟨rfl, rfl⟩
      | raw x => cases h'; exact ⟨rfl, rfl⟩
theorem LFp.no {v : V} {l : L} {a : Addr} (h : l.pl = true) : ¬ LFp v l a := by
  cases l <;> first | (intro k; exact (show False from k)) | cases h
theorem hide_no {σ : L2.St} {ρ : En} {i : Nat} {a : Addr} : ¬ SFp σ (hide ρ) i a := fun ⟨_, _, e, _, h⟩ => LFp.no (hide_at e).2 h
theorem hide_len (ρ : En) : (hide ρ).length = ρ.length := List.length_map ..
theorem wipeE_len (ρ : En) : ∀ vs : List Nat, (wipeE ρ vs).length = ρ.length
  | [] => rfl
  | v :: vs => by unfold wipeE; rw [List.length_set, wipeE_len ρ vs]
/-- within a comprehension: a base of its own, the own lists out of sight -/
theorem EnvOk.inner {F H : Hp} {σ : L2.St} (E : EnvOk B K F H σ ρ) (vs : List Nat) : EnvOk ⟨F, ntb H, none⟩ K F H (wipe σ vs) (wipeE (hide ρ) vs) := by
  have base : EnvOk ⟨F, ntb H, none⟩ K F H σ (hide ρ) := by
    refine ⟨⟨Ex.refl F, E.fh, fun a o e _ _ => (ntb_of e).1, fun a h => h, fun a h _ => h, E.st.tf, E.st.tab⟩, E.len.trans (hide_len ρ).symm, fun i l e => E.sl i l (hide_at e).1, fun i j a e1 _ => absurd e1 hide_no, fun i a e1 => absurd e1 hide_no, fun i a e => nomatch e⟩
  induction vs with
  | nil => exact base
  | cons v vs ih => exact ih.forget fun a e => nomatch e
/-- an object that is neither frozen nor a slot's is changed -/
theorem EnvOk.poke {F H : Hp} {σ : L2.St} (E : EnvOk B K F H σ ρ) {p : Addr} {o : HO} (hF : F p = none) (h0 : B.H0 p = none) (hs : ∀ i, ¬ SFp σ ρ i p) (hn : ∀ u, H p = some u → NT u) : EnvOk B K F (upd H p o) σ ρ := by
  refine ⟨⟨E.st.f0, fun a u e => ?_, fun a u e n m => ?_, fun a h => ?_, E.st.nf, E.st.tf, tabs_upd E.st.tab hn⟩, E.len, E.sl_mono (Ex.refl F) fun i a h => ⟨(E.live h).1, upd_ne fun z => hs i (by rw [← z]; exact h)⟩, E.sep, E.mine, E.pin⟩
  · rw [upd_ne fun z => by rw [z, hF] at e; cases e]; exact E.fh a u e
  · rw [upd_ne fun z => by rw [z, h0] at e; cases e]; exact E.st.h0 a u e n m
  · have z : a ≠ p := fun z => h (by rw [z]; exact h0)
    rw [ntb_congr (upd_ne z)]; exact E.st.th a h
theorem St1.stp {F H F' H' : Hp} (s : St1 ⟨F, ntb H, none⟩ F' H') : Stp F H F' H' := ⟨s.f0, s.fh, fun a o e m => s.h0 a o (ntb_at e m) (fun _ z => nomatch z) m, s.nf, s.tf, s.tab⟩
/-- what a comprehension over the items as wants -/
def Comp {α : Type} (K : Fr) (g : TG) (tt : TT) (te : TE) (vs : List Nat) (f : α → PyData) (as : List α) (ρ : En) (P : α → Option PyData → Prop) : Prop :=
  ∀ a, a ∈ as → ∀ B : Bs, B.pin.map Prod.fst = none → WG B K g (f a) (wipeE (hide ρ) vs) fun ρ2 => WT B K tt ρ2 fun b ρ3 => (b = true → WD B K te ρ3 fun y _ => P a (some y)) ∧ (b = false → P a none)
theorem lc_gen {α : Type} {J : It} {g : TG} {tt : TT} {vs : List Nat} {f : α → PyData} {as : List α} {P : α → Option PyData → Prop} {F0 F1 H1 : Hp} {σ : L2.St} {ρ1 : En} {QQ : VK} (gv : GV g vs) (E1 : EnvOk B K F1 H1 σ ρ1) (e1 : Ex F0 F1) (hz : as.length ≤ lim)
    (go : ∀ (i : Nat) (a : α) F H, as[i]? = some a → Ex F1 F → Ex F H → J.go i H)
    (stop : ∀ (i : Nat) F H, as.length ≤ i → Ex F1 F → Ex F H → J.stop i H)
    (yld : ∀ (i : Nat) (a : α) B F H σ ρ x H', as[i]? = some a → EnvOk B K F H σ ρ → Ex F1 F → J.yld i H x H' → ∃ F', EnvOk B K F' H' σ ρ ∧ Ex F F' ∧ Rp K F' x (f a))
    (h : Comp K g tt te vs f as ρ1 P) (k : ∀ v F' H' ys, EnvOk B K F' H' σ ρ1 → Ex F0 F' → ROk B K F' H' σ ρ1 v (.new ys) → Sel P as ys → QQ v H') :
    ∀ D, H1 D = none → ∃ W : Nat → Nat → Hp → Prop, (∃ m, W 0 m (upd H1 D (.lst []))) ∧ ∀ i m H, W i m H →
      (J.stop i H ∧ QQ (.ref D) H) ∨ (J.go i H ∧ ∃ Nx : Hp → Prop, (∀ H', Nx H' → ∃ m', m' < m ∧ W (i + 1) m' H') ∧ ∀ x H', J.yld i H x H' → g x (wipe σ vs) H' fun σ2 H2 => wipe σ2 vs = wipe σ vs ∧ tt σ2 H2 fun b H3 =>
        if b = true then te σ2 H3 fun y H4 => ∃ acc, H4 D = some (.lst acc) ∧ acc.length < sizeLine ∧ Nx (upd H4 D (.lst (acc ++ [y]))) else Nx H3) := by
  intro D hD
  have hs : ∀ i, ¬ SFp σ ρ1 i D := fun i => E1.fr hD i
  have h0 : B.H0 D = none := E1.h0p hD
  refine ⟨fun i m H => m = as.length - i ∧ i ≤ as.length ∧ ∃ F acc ys, EnvOk B K F H σ ρ1 ∧ Ex F1 F ∧ F D = none ∧ H D = some (.lst acc) ∧ RpA K F acc ys ∧ Sel P (as.take i) ys,
    ⟨as.length, (Nat.sub_zero _).symm, Nat.zero_le _, F1, [], [], E1.allocO hD, Ex.refl F1, E1.fh.free hD, upd_same, .nil, .nil⟩, ?_⟩
  rintro i m H2 ⟨rfl, hi, F2, acc, ys, E2, e2, fD, hD2, ra, sel⟩
  by_cases hlt : i < as.length
  · have ea : as[i]? = some as[i] := List.getElem?_eq_getElem hlt
    refine .inr ⟨go i _ F2 H2 ea e2 E2.fh, fun H' => ∃ F acc ys, EnvOk B K F H' σ ρ1 ∧ Ex F1 F ∧ F D = none ∧ H' D = some (.lst acc) ∧ RpA K F acc ys ∧ Sel P (as.take (i + 1)) ys, fun H' p' => ⟨as.length - (i + 1), by omega, rfl, hlt, p'⟩, fun x H' y => ?_⟩
    obtain ⟨F', E', e', rx⟩ := yld i _ _ F2 H2 _ _ x H' ea (E2.inner vs) e2 y
    refine gv.stay (h as[i] (List.getElem_mem hlt) _ rfl F' H' _ x E' rx (fun σ2 H3 => tt σ2 H3 fun b H4 => if b = true then te σ2 H4 fun y H5 => ∃ acc, H5 D = some (.lst acc) ∧ acc.length < sizeLine ∧ ∃ F acc' ys, EnvOk B K F (upd H5 D (.lst (acc ++ [y]))) σ ρ1 ∧ Ex F1 F ∧ F D = none ∧ (upd H5 D (.lst (acc ++ [y]))) D = some (.lst acc') ∧ RpA K F acc' ys ∧ Sel P (as.take (i + 1)) ys
      else ∃ F acc ys, EnvOk B K F H4 σ ρ1 ∧ Ex F1 F ∧ F D = none ∧ H4 D = some (.lst acc) ∧ RpA K F acc ys ∧ Sel P (as.take (i + 1)) ys) fun F3 H3 σ3 ρ3 E3 e3 q3 => ?_) fun σ3 H3 hl hk q => ⟨wipe_eq (by rw [hl, wipe_length]) hk, q⟩
    refine q3 F3 H3 σ3 E3 _ fun b F4 H4 ρ4 E4 e4 q4 => ?_
    cases b with
    | true =>
      refine q4.1 rfl F4 H4 σ3 E4 _ fun v y F5 H5 ρ5 E5 e5 rv q5 => ?_
      have st := E5.st.stp
      have E6 := E2.step st
      have hD5 := st.eh D _ hD2 (nt_lst _).1
      have fD5 := st.nf D fD (ntb_live hD2 (nt_lst _).1)
      refine ⟨acc, hD5, ?_, F5, acc ++ [v], ys ++ [y], E6.poke fD5 h0 hs (fun u e => by rw [hD5] at e; cases e; exact nt_lst _), e2.trans st.ef, fD5, upd_same, (ra.mono st.ef).append (.cons rv .nil), ?_⟩
      · have l1 := sel.len
        rw [List.length_take] at l1
        rw [ra.length]
        exact lim_lt (by omega)
      · rw [take_snoc ea]
        exact .yes sel q5
    | false =>
      have st := E4.st.stp
      have E6 := E2.step st
      refine ⟨F4, acc, ys, E6, e2.trans st.ef, st.nf D fD (ntb_live hD2 (nt_lst _).1), st.eh D _ hD2 (nt_lst _).1, ra.mono st.ef, ?_⟩
      rw [take_snoc ea]
      exact .no sel (q4.2 rfl)
  · have e : i = as.length := by omega
    subst e
    rw [List.take_length] at sel
    exact .inl ⟨stop _ F2 H2 (Nat.le_refl _) e2 E2.fh, k _ F2 H2 ys E2 (e1.trans e2) ⟨D, acc, rfl, fD, hD2, ra, h0, hs⟩ sel⟩
/-- over a list, a tuple, a range, the script -/
theorem we_lcL {α : Type} {tl : TE} {g : TG} {tt : TT} {vs : List Nat} (f : α → PyData) (P : α → Option PyData → Prop) (gv : GV g vs) (h : WD B K tl ρ fun x ρ1 => ∃ as : List α, x = .list (as.map f) ∧ as.length ≤ lim ∧ Comp K g tt te vs f as ρ1 P ∧ ∀ ys, Sel P as ys → Q (.new ys) ρ1) :
    WE B K (tLc (iList K tl) g tt te vs) ρ Q := fun F H σ E QQ k =>
  h F H σ E _ fun v x F1 H1 ρ1 E1 e1 rv ⟨as, hx, hz, hc, q⟩ => by
    subst hx
    cases rv with
    | @lst a ws xs ha ra =>
    have hl : ws.length = as.length := by rw [ra.length, List.length_map]
    refine ⟨a, rfl, ⟨ws, .inl (.inl (E1.fh _ _ ha))⟩, lc_gen (J := Itl K a) gv E1 e1 hz (fun i b F2 H2 ea e2 fh => ?_) (fun i F2 H2 hi e2 fh => ⟨ws, .inl (.inl (fh _ _ (e2 _ _ ha))), by omega⟩) (fun i b B2 F2 H2 σ2 ρ2 y H' ea E2 e2 hy => ?_) hc fun v F2 H2 ys E2 e2 rv2 sel => k v (.new ys) F2 H2 ρ1 E2 e2 rv2 (q ys sel)⟩
    · obtain ⟨w, hw, _⟩ := at_map' ra ea
      exact ⟨ws, w, .inl (.inl (fh _ _ (e2 _ _ ha))), hw⟩
    · obtain ⟨rfl, hy⟩ := hy
      exact ⟨F2, E2, Ex.refl F2, Rp.mono e2 (at_map ra ea (hy ws (.inl (.inl (E2.fh _ _ (e2 _ _ ha))))))⟩
theorem we_lcT {α : Type} {tl : TE} {g : TG} {tt : TT} {vs : List Nat} (f : α → PyData) (P : α → Option PyData → Prop) (gv : GV g vs) (h : WD B K tl ρ fun x ρ1 => ∃ as : List α, x = .tuple (as.map f) ∧ as.length ≤ lim ∧ Comp K g tt te vs f as ρ1 P ∧ ∀ ys, Sel P as ys → Q (.new ys) ρ1) :
    WE B K (tLc (iTup K tl) g tt te vs) ρ Q := fun F H σ E QQ k =>
  h F H σ E _ fun v x F1 H1 ρ1 E1 e1 rv ⟨as, hx, hz, hc, q⟩ => by
    subst hx
    cases rv with
    | @tup a ws xs ha ra =>
    have hl : ws.length = as.length := by rw [ra.length, List.length_map]
    refine ⟨a, rfl, ⟨ws, E1.fh.stt ha⟩, lc_gen (J := Itt K a) gv E1 e1 hz (fun i b F2 H2 ea e2 fh => ?_) (fun i F2 H2 hi e2 fh => ⟨ws, fh.stt (e2.stt ha), by omega⟩) (fun i b B2 F2 H2 σ2 ρ2 y H' ea E2 e2 hy => ?_) hc fun v F2 H2 ys E2 e2 rv2 sel => k v (.new ys) F2 H2 ρ1 E2 e2 rv2 (q ys sel)⟩
    · obtain ⟨w, hw, _⟩ := at_map' ra ea
      exact ⟨ws, w, fh.stt (e2.stt ha), hw⟩
    · obtain ⟨rfl, hy⟩ := hy
      exact ⟨F2, E2, Ex.refl F2, Rp.mono e2 (at_map ra ea (hy ws (E2.fh.stt (e2.stt ha))))⟩
theorem we_lcScr {g : TG} {tt : TT} {vs : List Nat} {j : Nat} {ns : List Int} (P : Int → Option PyData → Prop) (gv : GV g vs) (hj : ρ[j]? = some (some (.scr ns))) (hz : ns.length ≤ lim) (hc : Comp K g tt te vs PyData.int ns ρ P) (q : ∀ ys, Sel P ns ys → Q (.new ys) ρ) :
    WE B K (tLc (iList K (tVar j)) g tt te vs) ρ Q := fun F H σ E QQ k => by
  obtain ⟨v, e, a, hv, hs⟩ := E.sl j _ hj
  subst hv
  refine ⟨.ref a, e, a, rfl, ⟨_, E.fh.sl hs⟩, lc_gen (J := Itl K a) gv E (Ex.refl F) hz (fun i b F2 H2 ea e2 fh => ⟨_, .int b, fh.sl (e2.sl hs), by rw [List.getElem?_map, ea]; rfl⟩) (fun i F2 H2 hi e2 fh => ⟨_, fh.sl (e2.sl hs), by rw [List.length_map]; exact hi⟩) (fun i b B2 F2 H2 σ2 ρ2 y H' ea E2 e2 hy => ?_) hc fun v F2 H2 ys E2 e2 rv2 sel => k v (.new ys) F2 H2 ρ E2 e2 rv2 (q ys sel)⟩
  obtain ⟨rfl, hy⟩ := hy
  have q := hy _ (E2.fh.sl (e2.sl hs))
  rw [List.getElem?_map, ea] at q
  cases q
  exact ⟨F2, E2, Ex.refl F2, Rp.int _⟩
theorem lc_itr {g : TG} {tt : TT} {vs : List Nat} {lo : Int} {n : Nat} {P : Int → Option PyData → Prop} {F0 F1 H1 : Hp} {σ : L2.St} {ρ1 : En} {QQ : VK} (gv : GV g vs) (E1 : EnvOk B K F1 H1 σ ρ1) (e1 : Ex F0 F1) (hz : n ≤ lim) (h : Comp K g tt te vs PyData.int (ixs lo n) ρ1 P)
    (k : ∀ v F' H' ys, EnvOk B K F' H' σ ρ1 → Ex F0 F' → ROk B K F' H' σ ρ1 v (.new ys) → Sel P (ixs lo n) ys → QQ v H') : ∀ D, H1 D = none → ∃ W : Nat → Nat → Hp → Prop, (∃ m, W 0 m (upd H1 D (.lst []))) ∧ ∀ i m H, W i m H →
      ((Itr lo n).stop i H ∧ QQ (.ref D) H) ∨ ((Itr lo n).go i H ∧ ∃ Nx : Hp → Prop, (∀ H', Nx H' → ∃ m', m' < m ∧ W (i + 1) m' H') ∧ ∀ x H', (Itr lo n).yld i H x H' → g x (wipe σ vs) H' fun σ2 H2 => wipe σ2 vs = wipe σ vs ∧ tt σ2 H2 fun b H3 =>
        if b = true then te σ2 H3 fun y H4 => ∃ acc, H4 D = some (.lst acc) ∧ acc.length < sizeLine ∧ Nx (upd H4 D (.lst (acc ++ [y]))) else Nx H3) := by
  refine lc_gen (J := Itr lo n) (f := PyData.int) (as := ixs lo n) gv E1 e1 (by rw [ixs_len]; exact hz) (fun i b F2 H2 ea e2 fh => ?_) (fun i F2 H2 hi e2 fh => ?_) (fun i b B2 F2 H2 σ2 ρ2 y H' ea E2 e2 hy => ?_) h k
  · have := (List.getElem?_eq_some_iff.mp ea).1
    rw [ixs_len] at this
    exact this
  · rw [ixs_len] at hi
    exact hi
  · obtain ⟨rfl, rfl⟩ := hy
    rw [ixs_at] at ea
    split at ea
    · cases ea
      exact ⟨F2, E2, Ex.refl F2, Rp.int _⟩
    · cases ea
theorem we_lc1 {tn : TE} {g : TG} {tt : TT} {vs : List Nat} (P : Int → Option PyData → Prop) (gv : GV g vs) (h : WD B K tn ρ fun x ρ1 => ∃ n : Int, x = .int n ∧ -1000000 ≤ n ∧ n ≤ 1000000 ∧ Comp K g tt te vs PyData.int (ixs 0 n.toNat) ρ1 P ∧ ∀ ys, Sel P (ixs 0 n.toNat) ys → Q (.new ys) ρ1) :
    WE B K (tLc (iRng1 (tCons tn tNil)) g tt te vs) ρ Q := fun F H σ E QQ k =>
  h F H σ E _ fun v x F1 H1 ρ1 E1 e1 rv ⟨n, hx, n0, n1, hc, q⟩ => by
    subst hx
    cases rv
    exact ⟨n, rfl, by omega, by omega, lc_itr gv E1 e1 (by show n.toNat ≤ 1000000; omega) hc fun v F2 H2 ys E2 e2 rv2 sel => k v (.new ys) F2 H2 ρ1 E2 e2 rv2 (q ys sel)⟩
end
end SV

set_option maxHeartbeats 1000000
namespace SV
open PySem PySem.Spec L2
open Evl (Ex)

/-! ### what a def is worth, over plain data -/
abbrev GF := List L → (R → List PyData → Prop) → (Addr → Prop) → Prop
def pinAt (pin : Option Nat) (vs : List V) : Option (Nat × Addr) :=
  match pin with
  | none => none
  | some p => match vs[p]? with
    | some (.ref a) => some (p, a)
    | _ => none
def keyD : Key → PyData
  | .inl i => .int i
  | .inr s => .str s
/-- what stands in the argument that the def may change: a list's items; a dict's keys and values -/
def Own1 (B : Bs) (K : Fr) (F H : Hp) (ys : List PyData) : Prop :=
  match B.pin with
  | none => ys = []
  | some (_, a) => F a = none ∧ (((∃ ws, H a = some (.lst ws) ∧ RpA K F ws ys) ∧ ∃ vs, B.H0 a = some (.lst vs)) ∨ ((∃ (ks : List Key) (ws : List V) (xs : List PyData), H a = some (.dK (ks.zip ws)) ∧ ks.length = xs.length ∧ RpA K F ws xs ∧ ys = [.list (ks.map keyD), .list xs]) ∧ ∃ kvs, B.H0 a = some (.dK kvs)))
def RetOk (B : Bs) (K : Fr) (F H : Hp) (v : V) : R → Prop
  | .d x => Rp K F v x
  | .new xs => ∃ a vs, v = .ref a ∧ F a = none ∧ H a = some (.lst vs) ∧ RpA K F vs xs ∧ B.H0 a = none
  | .scr ns => ∃ a, v = .ref a ∧ SqL K F a (ns.map V.int)
  | .raw w => v = w
  | .deep t => Ot K F H v t ∧ t.fp.Nodup ∧ ∀ a, a ∈ t.fp → B.H0 a = none
  | .newD ks xs => ∃ a vs, v = .ref a ∧ F a = none ∧ H a = some (.dK (ks.zip vs)) ∧ ks.length = xs.length ∧ RpA K F vs xs ∧ B.H0 a = none
variable [Tbs]
structure Args (K : Fr) (pin : Option Nat) (F H0 H : Hp) (vs : List V) (ls : List L) : Prop where
  ok : EnvOk ⟨F, H0, pinAt pin vs⟩ K F H (vs.map some) (ls.map some)
  pn : (pinAt pin vs).map Prod.fst = pin
def SpG (K : Fr) (pin : Option Nat) (G : GF) : Sp := fun vs H Q E => ∃ F H0 ls Po Pe, Args K pin F H0 H vs ls ∧ G ls Po Pe ∧
  (∀ v r F' H' ys, St1 ⟨F, H0, pinAt pin vs⟩ F' H' → RetOk ⟨F, H0, pinAt pin vs⟩ K F' H' v r → Own1 ⟨F, H0, pinAt pin vs⟩ K F' H' ys → Po r ys → Q v H') ∧
  ∀ C F' H' ys, St1 ⟨F, H0, pinAt pin vs⟩ F' H' → Own1 ⟨F, H0, pinAt pin vs⟩ K F' H' ys → Pe C → E (.ref C) none H'
def ownAt (pin : Option Nat) (ρ : En) : List PyData :=
  match pin with
  | none => []
  | some p => match ρ[p]? with
    | some (some (.own ys)) => ys
    | some (some (.ownD ks xs)) => [.list (ks.map keyD), .list xs]
    | _ => []
def Zf (pin : Option Nat) (Po : R → List PyData → Prop) : Zs := { nx := fun ρ => Po (.d .none) (ownAt pin ρ), rt := fun r ρ => Po r (ownAt pin ρ) }
def EK (B : Bs) (K : Fr) (E : XK) (C : Addr) : Prop := ∀ F H σ ρ, EnvOk B K F H σ ρ → E (.ref C) none H
section
variable {B : Bs} {K : Fr} {F H F' H' : Hp} {σ : L2.St} {ρ : En} {v : V} {r : R}
theorem EnvOk.own1 (E : EnvOk B K F H σ ρ) {pin : Option Nat} (hp : B.pin.map Prod.fst = pin) : Own1 B K F H (ownAt pin ρ) := by
  unfold Own1
  cases e : B.pin with
  | none => rw [e] at hp; cases hp; rfl
  | some q =>
    obtain ⟨p, a⟩ := q
    rw [e] at hp
    cases hp
    obtain ⟨h1, h3⟩ := E.pin p a e
    have key : ∀ l, ρ[p]? = some (some l) → ownAt (some p) ρ = match l with | .own ys => ys | .ownD ks xs => [.list (ks.map keyD), .list xs] | _ => [] := fun l hl => by
      unfold ownAt
      simp only [hl]
      cases l <;> rfl
    show F a = none ∧ _
    rcases h3 with ⟨⟨xs, h2⟩, hk⟩ | ⟨⟨ks, xs, h2⟩, hk⟩
    · obtain ⟨a', vs, e2, k1, k2, k3⟩ := E.own_at h2
      rw [h1] at e2
      cases e2
      exact ⟨k1, .inl ⟨⟨vs, k2, by rw [show ownAt (Option.map Prod.fst (some (p, a))) ρ = xs from key _ h2]; exact k3⟩, hk⟩⟩
    · obtain ⟨a', vs, e2, k1, k2, hl, k3⟩ := E.ownD_at h2
      rw [h1] at e2
      cases e2
      exact ⟨k1, .inr ⟨⟨ks, vs, xs, k2, hl, k3, key _ h2⟩, hk⟩⟩
theorem ROk.ret (h : ROk B K F H σ ρ v r) : RetOk B K F H v r := by
  cases r with
  | d x => exact h
  | new xs => obtain ⟨a, vs, e, k1, k2, k3, k4, _⟩ := h; exact ⟨a, vs, e, k1, k2, k3, k4⟩
  | scr ns => exact h
  | raw w => exact h
  | deep t => exact ⟨h.1, h.2.1, fun a ha => (h.2.2 a ha).1⟩
  | newD ks xs => obtain ⟨a, vs, e, k1, k2, hl, k3, k4, _⟩ := h; exact ⟨a, vs, e, k1, k2, hl, k3, k4⟩
theorem EnvOk.pad (E : EnvOk B K F H σ ρ) (k : Nat) : EnvOk B K F H (σ ++ List.replicate k none) (ρ ++ List.replicate k none) := by
  have at_ : ∀ (i : Nat) (l : L), (ρ ++ List.replicate k none)[i]? = some (some l) → ρ[i]? = some (some l) ∧ (σ ++ List.replicate k none)[i]? = σ[i]? := fun i l e => by
    by_cases h : i < ρ.length
    · rw [List.getElem?_append_left h] at e
      exact ⟨e, List.getElem?_append_left (by rw [E.len]; exact h)⟩
    · rw [List.getElem?_append_right (by omega), List.getElem?_replicate] at e
      split at e
      · cases e
      · cases e
  have fpo : ∀ i a, SFp (σ ++ List.replicate k none) (ρ ++ List.replicate k none) i a → SFp σ ρ i a := fun i a ⟨l, v, e1, e2, e3⟩ => by
    obtain ⟨q, s⟩ := at_ i l e1
    exact ⟨l, v, q, s ▸ e2, e3⟩
  refine ⟨E.st, by rw [List.length_append, List.length_append, E.len, List.length_replicate, List.length_replicate], fun i l e => ?_, fun i j a e1 e2 => E.sep i j a (fpo _ _ e1) (fpo _ _ e2), fun i a e1 => E.mine i a (fpo _ _ e1), fun i a e => ?_⟩
  · obtain ⟨q, s⟩ := at_ i l e
    rw [s]
    exact E.sl i l q
  · obtain ⟨q1, q2⟩ := E.pin i a e
    have hi : i < ρ.length := by
      rcases q2 with ⟨⟨xs, q2⟩, _⟩ | ⟨⟨ks, xs, q2⟩, _⟩ <;> exact (List.getElem?_eq_some_iff.mp q2).1
    rw [List.getElem?_append_left (by rw [E.len]; exact hi), List.getElem?_append_left hi]
    exact ⟨q1, q2⟩
/-- a def's body read over plain data -/
theorem rd_of {N : List Str} {t : TS} {pin : Option Nat} {G : GF} {vs : List V} {Q : VK} {E : XK} (h : SpG K pin G vs H Q E)
    (w : ∀ B ls Po Pe, B.pin.map Prod.fst = pin → G ls Po Pe → (∀ C, Pe C → EK B K E C) → WS B K t (ls.map some ++ List.replicate (N.length - ls.length) none) (Zf pin Po)) : t { nx := fun _ H' => Q .non H', rt := Q } (L2.start N vs) H := by
  obtain ⟨F, H0, ls, Po, Pe, ha, hG, hQ, hE⟩ := h
  have hl : vs.length = ls.length := by
    have := ha.ok.len
    rw [List.length_map, List.length_map] at this
    exact this
  have E0 := ha.ok.pad (N.length - ls.length)
  have ww := w ⟨F, H0, pinAt pin vs⟩ ls Po Pe ha.pn hG fun C hC F' H' σ' ρ' E' => hE C F' H' _ E'.st (E'.own1 ha.pn) hC
  unfold L2.start
  rw [hl]
  exact ww F H _ E0 _ ⟨fun F' H' σ' ρ' E' _ q => hQ .non (.d .none) F' H' _ E'.st Rp.non (E'.own1 ha.pn) q, fun F' H' σ' ρ' v r E' _ rv q => hQ v r F' H' _ E'.st rv.ret (E'.own1 ha.pn) q, fun _ _ _ _ _ _ q => q.elim, fun _ _ _ _ _ _ q => q.elim⟩
theorem SpG.len {pin : Option Nat} {G : GF} {n : Nat} (hG : ∀ ls Po Pe, G ls Po Pe → ls.length = n) : ∀ vs H Q E, SpG K pin G vs H Q E → vs.length = n := fun vs H Q E h => by
  obtain ⟨F, H0, ls, Po, Pe, ha, hg, _⟩ := h
  have := ha.ok.len
  rw [List.length_map, List.length_map] at this
  rw [this]
  exact hG ls Po Pe hg
end
/-! ### calls -/
def argL : List Ar → Option (List L)
  | [] => some []
  | .d x :: r => (argL r).map (.d x :: ·)
  | .scr ns :: r => (argL r).map (.scr ns :: ·)
  | .raw v :: r => (argL r).map (.raw v :: ·)
  | .own _ :: _ => none
section
variable {B : Bs} {K : Fr} {F F1 H H1 F' H' : Hp} {σ : L2.St} {ρ ρ1 : En} {ta : TA} {Q : R → En → Prop}
theorem args_sl : ∀ {as : List Ar} {vs : List V} {ls : List L}, AOks K F σ vs as → argL as = some ls → vs.length = ls.length ∧ ∀ (i : Nat) (l : L), ls[i]? = some l → (∃ v, vs[i]? = some v ∧ SlotOk K F H v l) ∧ l.pl = true
  | [], _, _, .nil, e => by
    cases e
    exact ⟨rfl, fun i l h => by simp at h⟩
  | a :: as, _, ls, .cons (v := v) (vs := vs) ha hs, e => by
    have key : ∃ l ls', ls = l :: ls' ∧ argL as = some ls' ∧ SlotOk K F H v l ∧ l.pl = true := by
      cases a with
      | d x =>
        cases q : argL as with
        | none => unfold argL at e; rw [q] at e; cases e
        | some ls' => unfold argL at e; rw [q] at e; cases e; exact ⟨_, ls', rfl, rfl, ha, rfl⟩
      | scr x =>
        cases q : argL as with
        | none => unfold argL at e; rw [q] at e; cases e
        | some ls' => unfold argL at e; rw [q] at e; cases e; exact ⟨_, ls', rfl, rfl, ha, rfl⟩
      | raw x =>
        cases q : argL as with
        | none => unfold argL at e; rw [q] at e; cases e
        | some ls' => unfold argL at e; rw [q] at e; cases e; exact ⟨_, ls', rfl, rfl, ha, rfl⟩
      | own j => cases e
    obtain ⟨l, ls', rfl, e', sl, no⟩ := key
    obtain ⟨h1, h2⟩ := args_sl hs e'
    refine ⟨congrArg (· + 1) h1, fun i l2 h => ?_⟩
    cases i with
    | zero =>
      have z := Option.some.inj h
      subst z
      exact ⟨⟨v, rfl, sl⟩, no⟩
    | succ i => exact h2 i l2 h
theorem map_some_at {ls : List L} {i : Nat} {l : L} (e : (ls.map some)[i]? = some (some l)) : ls[i]? = some l := by
  rw [List.getElem?_map] at e
  cases q : ls[i]? with
  | none => rw [q] at e; cases e
  | some l' => rw [q] at e; exact congrArg some (Option.some.inj (Option.some.inj e))
/-- arguments of which the callee may hold none -/
theorem args_pl {vs : List V} {ls : List L} (fh : Ex F H) (tt : Tfb F H) (hl : vs.length = ls.length) (hs : ∀ (i : Nat) (l : L), ls[i]? = some l → (∃ v, vs[i]? = some v ∧ SlotOk K F H v l) ∧ l.pl = true) : Args K none F (ntb H) H vs ls := by
  have no : ∀ i a, ¬ SFp (vs.map some) (ls.map some) i a := fun i a ⟨l, _, e, _, h⟩ => LFp.no (hs i l (map_some_at e)).2 h
  refine ⟨⟨⟨Ex.refl F, fh, fun a o e _ _ => (ntb_of e).1, fun a h => h, fun a h _ => h, tt.1, tt.2⟩, by rw [List.length_map, List.length_map, hl], fun i l e => ?_, fun i j a e1 _ => absurd e1 (no _ _), fun i a e1 => absurd e1 (no _ _), fun i a e => nomatch e⟩, rfl⟩
  obtain ⟨⟨v, hv, sv⟩, _⟩ := hs i _ (map_some_at e)
  exact ⟨v, by rw [List.getElem?_map, hv]; rfl, sv⟩
/-- an answer, where the caller stands -/
theorem ret_ok {H0 : Hp} (E : EnvOk B K F' H' σ ρ) (hf : ∀ a, H0 a = none → B.H0 a = none ∧ ∀ i, ¬ SFp σ ρ i a) {pin : Option (Nat × Addr)} {v : V} {r : R} (rv : RetOk ⟨F, H0, pin⟩ K F' H' v r) : ROk B K F' H' σ ρ v r := by
  cases r with
  | d x => exact rv
  | new xs =>
    obtain ⟨a, ws, e, k1, k2, k3, k4⟩ := rv
    exact ⟨a, ws, e, k1, k2, k3, (hf a k4).1, (hf a k4).2⟩
  | scr ns => exact rv
  | raw w => exact rv
  | deep t => exact ⟨rv.1, rv.2.1, fun a ha => hf a (rv.2.2 a ha)⟩
  | newD ks xs =>
    obtain ⟨a, ws, e, k1, k2, hl, k3, k4⟩ := rv
    exact ⟨a, ws, e, k1, k2, hl, k3, (hf a k4).1, (hf a k4).2⟩
theorem we_call {G : GF} {E : XK} (h : WA B K ta ρ fun as ρ1 => ∃ ls Pe, argL as = some ls ∧ G ls (fun r _ => Q r ρ1) Pe ∧ ∀ C, Pe C → EK B K E C) : WE B K (tCall (SpG K none G) [] E ta) ρ Q := fun F H σ E0 QQ k =>
  h F H σ E0 _ fun vs as F1 H1 ρ1 E1 e1 av ⟨ls, Pe, ha, hG, hE⟩ => by
    show SpG K none G (vs ++ []) H1 QQ E
    rw [List.append_nil]
    obtain ⟨hl, hs⟩ := args_sl (H := H1) av ha
    exact ⟨F1, ntb H1, ls, fun r _ => Q r ρ1, Pe, args_pl E1.fh E1.st.tt hl hs, hG, fun v r F' H' ys st rv _ q =>
      have E2 := E1.step st.stp
      k v r F' H' ρ1 E2 (e1.trans st.stp.ef) (ret_ok E2 E1.fr2 rv) q, fun C F' H' ys st _ hC => hE C hC F' H' σ ρ1 (E1.step st.stp)⟩
/-- the heap goes on, but the own list or dict of slot j is another one -/
theorem EnvOk.stepW (E : EnvOk B K F H σ ρ) {j p : Nat} {a : Addr} {l l' : L} (hj : ρ[j]? = some (some l)) (ha : σ[j]? = some (some (.ref a))) (hl : ∀ b, LFp (.ref a) l b ↔ b = a) (st : St1 ⟨F, ntb H, some (p, a)⟩ F' H') (s : SlotOk K F' H' (.ref a) l') (hl' : ∀ b, LFp (.ref a) l' b → b = a)
    (hp : (∃ xs ys, l = .own ys ∧ l' = .own xs) ∨ (∃ ks xs js ys, l = .ownD js ys ∧ l' = .ownD ks xs)) :
    EnvOk B K F' H' σ (ρ.set j (some l')) := by
  have fa : SFp σ ρ j a := ⟨l, _, hj, ha, (hl a).mpr rfl⟩
  have k1 := (E.live fa).1
  have ne : ∀ b o, b ≠ a → H b = some o → (∀ ps, o ≠ .tbl ps) → H' b = some o := fun b o n e m => st.h0 b o (ntb_at e m) (fun i z => n (Prod.mk.inj (Option.some.inj z)).2.symm) m
  have keep : ∀ i b, SFp σ ρ i b → i ≠ j → F' b = none ∧ H' b = H b := fun i b hb n => by
    obtain ⟨m1, o, m2⟩ := E.live hb
    have hb' : b ≠ a := fun z => by subst z; exact n (E.sep i j b hb fa)
    exact ⟨st.nf b m1 (ntb_live m2 (E.nt hb _ m2).1), (ne b _ hb' m2 (E.nt hb _ m2).1).trans m2.symm⟩
  have st2 : St1 B F' H' := by
    refine ⟨E.st.f0.trans st.f0, st.fh, fun b u e n m => ?_, fun b hb => ?_, fun b h1 h2 => st.nf b (E.st.nf b h1 h2) (E.st.th b h2), st.tf, st.tab⟩
    · have hb : b ≠ a := fun z => by
        subst z
        rcases E.mine j b fa with z | z
        · rw [z] at e; cases e
        · exact n j z
      exact ne b u hb (E.st.h0 b u e n m) m
    · exact st.th b (E.st.th b hb)
  have hi : j < ρ.length := (List.getElem?_eq_some_iff.mp hj).1
  have fpo : ∀ i b, SFp σ (ρ.set j (some l')) i b → SFp σ ρ i b := fun i b ⟨m, w, e1, e2, e3⟩ => by
    rcases set_cases e1 with ⟨rfl, _, e⟩ | ⟨n, e⟩
    · cases e
      rw [ha] at e2
      cases e2
      rw [hl' b e3]
      exact fa
    · exact ⟨m, w, e, e2, e3⟩
  refine ⟨st2, by rw [List.length_set]; exact E.len, fun i m e => ?_, fun i m b e1 e2 => E.sep i m b (fpo _ _ e1) (fpo _ _ e2), fun i b e => E.mine i b (fpo _ _ e), fun i b e => ?_⟩
  · rcases set_cases e with ⟨rfl, _, e'⟩ | ⟨n, e'⟩
    · cases e'; exact ⟨_, ha, s⟩
    · obtain ⟨w, e1, s'⟩ := E.sl i m e'
      exact ⟨w, e1, s'.mono st.f0 fun b hb => keep i b ⟨m, w, e', e1, hb⟩ n⟩
  · obtain ⟨q1, q2⟩ := E.pin i b e
    refine ⟨q1, ?_⟩
    by_cases h : i = j
    · subst h
      rw [List.getElem?_set_self hi]
      rw [hj] at q2
      rcases hp with ⟨xs, ys, rfl, rfl⟩ | ⟨ks, ts, js, ys, rfl, rfl⟩
      · rcases q2 with ⟨_, q2⟩ | ⟨⟨_, _, q2⟩, _⟩
        · exact .inl ⟨⟨xs, rfl⟩, q2⟩
        · cases q2
      · rcases q2 with ⟨⟨_, q2⟩, _⟩ | ⟨_, q2⟩
        · cases q2
        · exact .inr ⟨⟨ks, ts, rfl⟩, q2⟩
    · rw [List.getElem?_set_ne (Ne.symm h)]; exact q2
theorem AOks.split : ∀ {as bs : List Ar} {vs : List V}, AOks K F σ vs (as ++ bs) → ∃ us ws, vs = us ++ ws ∧ us.length = as.length ∧ AOks K F σ us as ∧ AOks K F σ ws bs
  | [], _, vs, h => ⟨[], vs, rfl, rfl, .nil, h⟩
  | _ :: _, _, _, .cons h r => by
    obtain ⟨us, ws, rfl, hl, h1, h2⟩ := AOks.split r
    exact ⟨_ :: us, ws, rfl, congrArg (· + 1) hl, .cons h h1, h2⟩
/-- one own argument among plain ones -/
theorem args_own {H0 : Hp} {pin : Option (Nat × Addr)} {us ws : List V} {l1 l2 : List L} {v : V} {l : L} {p : Nat} (hlen : l1.length = p) (fh : Ex F H) (tt : Tfb F H) (bt : ∀ b ps, H0 b ≠ some (.tbl ps)) (h0 : ∀ b o, H0 b = some o → H b = some o)
    (n1 : us.length = l1.length) (s1 : ∀ (i : Nat) (l : L), l1[i]? = some l → (∃ v, us[i]? = some v ∧ SlotOk K F H v l) ∧ l.pl = true)
    (n2 : ws.length = l2.length) (s2 : ∀ (i : Nat) (l : L), l2[i]? = some l → (∃ v, ws[i]? = some v ∧ SlotOk K F H v l) ∧ l.pl = true)
    (sv : SlotOk K F H v l) (hm : ∀ b, LFp v l b → H0 b = none ∨ pin = some (p, b))
    (hpin : ∀ i a, pin = some (i, a) → i = p ∧ v = .ref a ∧ (((∃ xs, l = .own xs) ∧ ∃ vs, H0 a = some (.lst vs)) ∨ ((∃ ks xs, l = .ownD ks xs) ∧ ∃ kvs, H0 a = some (.dK kvs)))) :
    EnvOk ⟨F, H0, pin⟩ K F H ((us ++ v :: ws).map some) ((l1 ++ l :: l2).map some) := by
  have at_ : ∀ (i : Nat) (m : L), (l1 ++ l :: l2)[i]? = some m → (∃ w, (us ++ v :: ws)[i]? = some w ∧ SlotOk K F H w m) ∧ ((i = p ∧ m = l) ∨ m.pl = true) := fun i m e => by
    by_cases h1 : i < l1.length
    · rw [List.getElem?_append_left h1] at e
      obtain ⟨⟨w, hv, sw⟩, no⟩ := s1 i m e
      exact ⟨⟨w, by rw [List.getElem?_append_left (by omega)]; exact hv, sw⟩, .inr no⟩
    · by_cases h2 : i = l1.length
      · subst h2
        rw [List.getElem?_append_right (Nat.le_refl _), Nat.sub_self] at e
        have e' := Option.some.inj e
        subst e'
        refine ⟨⟨v, ?_, sv⟩, .inl ⟨hlen, rfl⟩⟩
        rw [List.getElem?_append_right (by omega), show l1.length - us.length = 0 by omega]
        rfl
      · rw [List.getElem?_append_right (by omega), show i - l1.length = (i - l1.length - 1) + 1 by omega, List.getElem?_cons_succ] at e
        obtain ⟨⟨w, hv, sw⟩, no⟩ := s2 _ m e
        refine ⟨⟨w, ?_, sw⟩, .inr no⟩
        rw [List.getElem?_append_right (by omega), show i - us.length = (i - l1.length - 1) + 1 by omega, List.getElem?_cons_succ]
        exact hv
  have at_p : ((us ++ v :: ws).map some)[p]? = some (some v) := by
    rw [List.getElem?_map, List.getElem?_append_right (by omega), show p - us.length = 0 by omega]
    rfl
  have at_l : ((l1 ++ l :: l2).map some)[p]? = some (some l) := by
    rw [List.getElem?_map, List.getElem?_append_right (by omega), show p - l1.length = 0 by omega]
    rfl
  have fpo : ∀ i b, SFp ((us ++ v :: ws).map some) ((l1 ++ l :: l2).map some) i b → i = p ∧ LFp v l b := fun i b ⟨m, w, e1, e2, e3⟩ => by
    rcases (at_ i m (map_some_at e1)).2 with ⟨rfl, rfl⟩ | no
    · rw [at_p] at e2
      cases e2
      exact ⟨rfl, e3⟩
    · exact absurd e3 (LFp.no no)
  refine ⟨⟨Ex.refl F, fh, fun a o e _ _ => h0 a o e, fun a h => ?_, fun a h _ => h, tt.1, tt.2⟩, ?_, fun i m e => ?_, fun i m b e1 e2 => (fpo _ _ e1).1.trans (fpo _ _ e2).1.symm, fun i b e => ?_, fun i b e => ?_⟩
  · cases q : H0 a with
    | none => exact absurd q h
    | some o => exact ntb_live (h0 a o q) fun ps z => bt a ps (by rw [q, z])
  · rw [List.length_map, List.length_map, List.length_append, List.length_append, List.length_cons, List.length_cons, n1, n2]
  · obtain ⟨⟨w, hv, sw⟩, _⟩ := at_ i m (map_some_at e)
    exact ⟨w, by rw [List.getElem?_map, hv]; rfl, sw⟩
  · obtain ⟨rfl, q⟩ := fpo i b e
    exact hm b q
  · obtain ⟨rfl, rfl, q⟩ := hpin i b e
    refine ⟨at_p, ?_⟩
    rw [at_l]
    rcases q with ⟨⟨xs, rfl⟩, q⟩ | ⟨⟨ks, xs, rfl⟩, q⟩
    · exact .inl ⟨⟨xs, rfl⟩, q⟩
    · exact .inr ⟨⟨ks, xs, rfl⟩, q⟩
theorem pinAt_own {us ws : List V} {a : Addr} {p : Nat} (hu : us.length = p) : pinAt (some p) (us ++ .ref a :: ws) = some (p, a) := by
  have e : (us ++ V.ref a :: ws)[p]? = some (.ref a) := by
    rw [List.getElem?_append_right (by omega), show p - us.length = 0 by omega]
    rfl
  show (match (us ++ V.ref a :: ws)[p]? with | some (.ref a) => some (p, a) | _ => none) = some (p, a)
  rw [e]
theorem we_callP {G : GF} {E : XK} {p : Nat} (h : WA B K ta ρ fun as ρ1 => ∃ pre post j xs l1 l2 Pe, as = pre ++ .own j :: post ∧ pre.length = p ∧ ρ1[j]? = some (some (.own xs)) ∧ argL pre = some l1 ∧ argL post = some l2 ∧ G (l1 ++ .own xs :: l2) (fun r ys => Q r (ρ1.set j (some (.own ys)))) Pe ∧ ∀ C, Pe C → EK B K E C) :
    WE B K (tCall (SpG K (some p) G) [] E ta) ρ Q := fun F H σ E0 QQ k =>
  h F H σ E0 _ fun vs as F1 H1 ρ1 E1 e1 av ⟨pre, post, j, xs, l1, l2, Pe, ea, hp, hj, hl1, hl2, hG, hE⟩ => by
    show SpG K (some p) G (vs ++ []) H1 QQ E
    rw [List.append_nil]
    subst ea
    obtain ⟨us, ws, rfl, hu, au, aw⟩ := av.split
    cases aw with
    | @cons v ws a as hv aw =>
    obtain ⟨a, cs, ha, f1, f2, f3⟩ := E1.own_at hj
    rw [show σ[j]? = some (some v) from hv] at ha
    cases ha
    obtain ⟨n1, s1⟩ := args_sl (H := H1) au hl1
    obtain ⟨n2, s2⟩ := args_sl (H := H1) aw hl2
    have pa : pinAt (some p) (us ++ .ref a :: ws) = some (p, a) := pinAt_own (hu.trans hp)
    have A := args_own (H0 := ntb H1) (pin := some (p, a)) (v := .ref a) (l := .own xs) (n1.symm.trans (hu.trans hp)) E1.fh E1.st.tt (ntb_tf H1) (fun b o e => (ntb_of e).1) n1 s1 n2 s2 ⟨a, cs, rfl, f1, f2, f3⟩ (fun b hb => .inr (by cases (show V.ref a = V.ref b from hb); rfl))
      (fun i b e => by cases e; exact ⟨rfl, rfl, .inl ⟨⟨xs, rfl⟩, cs, ntb_at f2 (nt_lst _).1⟩⟩)
    have back : ∀ F' H' ys, St1 ⟨F1, ntb H1, some (p, a)⟩ F' H' → Own1 ⟨F1, ntb H1, some (p, a)⟩ K F' H' ys → EnvOk B K F' H' σ (ρ1.set j (some (.own ys))) := fun F' H' ys st ow => by
      obtain ⟨fa, ow⟩ := (show F' a = none ∧ _ from ow)
      rcases ow with ⟨⟨vs', hw, rw'⟩, _⟩ | ⟨_, kvs, hk⟩
      · exact E1.stepW hj hv (fun b => ⟨fun z => by cases (show V.ref a = V.ref b from z); rfl, fun z => by subst z; rfl⟩) st ⟨a, vs', rfl, fa, hw, rw'⟩ (fun b z => by cases (show V.ref a = V.ref b from z); rfl) (.inl ⟨_, _, rfl, rfl⟩)
      · have hk := (ntb_of hk).1
        rw [f2] at hk
        cases hk
    have fr3 : ∀ ys b, ntb H1 b = none → B.H0 b = none ∧ ∀ i, ¬ SFp σ (ρ1.set j (some (.own ys))) i b := fun ys b hb => ⟨(E1.fr2 b hb).1, fun i ⟨m, w, q1, q2, q3⟩ => by
      rcases set_cases q1 with ⟨rfl, _, e⟩ | ⟨n, e⟩
      · cases e
        rw [hv] at q2
        cases q2
        cases (show V.ref a = V.ref b from q3)
        exact absurd hb (ntb_live f2 (fun _ z => by cases z))
      · exact (E1.fr2 b hb).2 i ⟨m, w, e, q2, q3⟩⟩
    unfold SpG
    rw [pa]
    refine ⟨F1, ntb H1, l1 ++ .own xs :: l2, fun r ys => Q r (ρ1.set j (some (.own ys))), Pe, ⟨by rw [pa]; exact A, by rw [pa]; rfl⟩, hG, fun v r F' H' ys st rv ow q => ?_, fun C F' H' ys st ow hC => hE C hC F' H' σ _ (back F' H' ys st ow)⟩
    exact k v r F' H' _ (back F' H' ys st ow) (e1.trans st.f0) (ret_ok (back F' H' ys st ow) (fr3 ys) rv) q
/-- a callee that changes the own dict of slot j -/
theorem we_callPD {G : GF} {E : XK} {p : Nat} (h : WA B K ta ρ fun as ρ1 => ∃ pre post j ks xs l1 l2 Pe, as = pre ++ .own j :: post ∧ pre.length = p ∧ ρ1[j]? = some (some (.ownD ks xs)) ∧ argL pre = some l1 ∧ argL post = some l2 ∧
      G (l1 ++ .ownD ks xs :: l2) (fun r ys => ∀ js zs, ys = [.list (js.map keyD), .list zs] → Q r (ρ1.set j (some (.ownD js zs)))) Pe ∧ ∀ C, Pe C → EK B K E C) :
    WE B K (tCall (SpG K (some p) G) [] E ta) ρ Q := fun F H σ E0 QQ k =>
  h F H σ E0 _ fun vs as F1 H1 ρ1 E1 e1 av ⟨pre, post, j, ks, xs, l1, l2, Pe, ea, hp, hj, hl1, hl2, hG, hE⟩ => by
    show SpG K (some p) G (vs ++ []) H1 QQ E
    rw [List.append_nil]
    subst ea
    obtain ⟨us, ws, rfl, hu, au, aw⟩ := av.split
    cases aw with
    | @cons v ws a as hv aw =>
    obtain ⟨a, cs, ha, f1, f2, hkl, f3⟩ := E1.ownD_at hj
    rw [show σ[j]? = some (some v) from hv] at ha
    cases ha
    obtain ⟨n1, s1⟩ := args_sl (H := H1) au hl1
    obtain ⟨n2, s2⟩ := args_sl (H := H1) aw hl2
    have pa : pinAt (some p) (us ++ .ref a :: ws) = some (p, a) := pinAt_own (hu.trans hp)
    have A := args_own (H0 := ntb H1) (pin := some (p, a)) (v := .ref a) (l := .ownD ks xs) (n1.symm.trans (hu.trans hp)) E1.fh E1.st.tt (ntb_tf H1) (fun b o e => (ntb_of e).1) n1 s1 n2 s2 ⟨a, cs, rfl, f1, f2, hkl, f3⟩ (fun b hb => .inr (by cases (show V.ref a = V.ref b from hb); rfl))
      (fun i b e => by cases e; exact ⟨rfl, rfl, .inr ⟨⟨ks, xs, rfl⟩, _, ntb_at f2 (nt_dK _).1⟩⟩)
    have back : ∀ F' H' ys, St1 ⟨F1, ntb H1, some (p, a)⟩ F' H' → Own1 ⟨F1, ntb H1, some (p, a)⟩ K F' H' ys → ∃ js zs, ys = [.list (js.map keyD), .list zs] ∧ EnvOk B K F' H' σ (ρ1.set j (some (.ownD js zs))) := fun F' H' ys st ow => by
      obtain ⟨fa, ow⟩ := (show F' a = none ∧ _ from ow)
      rcases ow with ⟨_, vs, hk⟩ | ⟨⟨js, vs', zs, hw, hl', rw', e⟩, _⟩
      · have hk := (ntb_of hk).1
        rw [f2] at hk
        cases hk
      · exact ⟨js, zs, e, E1.stepW hj hv (fun b => ⟨fun z => by cases (show V.ref a = V.ref b from z); rfl, fun z => by subst z; rfl⟩) st ⟨a, vs', rfl, fa, hw, hl', rw'⟩ (fun b z => by cases (show V.ref a = V.ref b from z); rfl) (.inr ⟨_, _, _, _, rfl, rfl⟩)⟩
    have fr3 : ∀ js zs b, ntb H1 b = none → B.H0 b = none ∧ ∀ i, ¬ SFp σ (ρ1.set j (some (.ownD js zs))) i b := fun js zs b hb => ⟨(E1.fr2 b hb).1, fun i ⟨m, w, q1, q2, q3⟩ => by
      rcases set_cases q1 with ⟨rfl, _, e⟩ | ⟨n, e⟩
      · cases e
        rw [hv] at q2
        cases q2
        cases (show V.ref a = V.ref b from q3)
        exact absurd hb (ntb_live f2 (fun _ z => by cases z))
      · exact (E1.fr2 b hb).2 i ⟨m, w, e, q2, q3⟩⟩
    unfold SpG
    rw [pa]
    refine ⟨F1, ntb H1, l1 ++ .ownD ks xs :: l2, fun r ys => ∀ js zs, ys = [.list (js.map keyD), .list zs] → Q r (ρ1.set j (some (.ownD js zs))), Pe, ⟨by rw [pa]; exact A, by rw [pa]; rfl⟩, hG, fun v r F' H' ys st rv ow q => ?_, fun C F' H' ys st ow hC => ?_⟩
    · obtain ⟨js, zs, e, E2⟩ := back F' H' ys st ow
      exact k v r F' H' _ E2 (e1.trans st.f0) (ret_ok E2 (fr3 js zs) rv) (q js zs e)
    · obtain ⟨js, zs, e, E2⟩ := back F' H' ys st ow
      exact hE C hC F' H' σ _ E2
/-- the own things of slot j are given away -/
noncomputable def cutH (H : Hp) (A : Addr → Prop) : Hp := fun a => @ite _ (A a) (Classical.propDecidable _) none (H a)
theorem cutH_yes {H : Hp} {A : Addr → Prop} {a : Addr} (h : A a) : cutH H A a = none := by unfold cutH; exact if_pos h
theorem cutH_no {H : Hp} {A : Addr → Prop} {a : Addr} (h : ¬ A a) : cutH H A a = H a := by unfold cutH; exact if_neg h
theorem EnvOk.lose (E : EnvOk B K F H σ ρ) {j : Nat} (np : ∀ a, B.pin ≠ some (j, a)) : EnvOk B K F (cutH H (SFp σ ρ j)) σ (ρ.set j none) := by
  have fpo : ∀ i a, SFp σ (ρ.set j none) i a → i ≠ j ∧ SFp σ ρ i a := fun i a ⟨m, u, e1, e2, e3⟩ => by
    obtain ⟨n, q⟩ := set_none e1
    exact ⟨n, m, u, q, e2, e3⟩
  have mine : ∀ a, SFp σ ρ j a → B.H0 a = none := fun a h => (E.mine j a h).elim id fun z => absurd z (np a)
  refine ⟨⟨E.st.f0, fun a o e => ?_, fun a o e n m => ?_, fun a h => ?_, E.st.nf, E.st.tf, tabs_keep E.st.tab (fun P ps e => (cutH_no fun z => (E.nt z _ e).1 ps rfl).trans e) fun c φ e => (cutH_no fun z => (E.nt z _ e).2 φ rfl).trans e⟩, by rw [List.length_set]; exact E.len, fun i l e => ?_, fun i k a e1 e2 => E.sep i k a (fpo _ _ e1).2 (fpo _ _ e2).2, fun i a e => E.mine i a (fpo _ _ e).2, fun i a e => ?_⟩
  · rw [cutH_no fun z => by rw [(E.live z).1] at e; cases e]; exact E.fh a o e
  · rw [cutH_no fun z => by rw [mine a z] at e; cases e]; exact E.st.h0 a o e n m
  · rw [ntb_congr (cutH_no fun z => h (mine a z))]; exact E.st.th a h
  · obtain ⟨n, q⟩ := set_none e
    obtain ⟨v, e1, s⟩ := E.sl i l q
    refine ⟨v, e1, s.mono (Ex.refl F) fun a ha => ?_⟩
    have h := (⟨l, v, q, e1, ha⟩ : SFp σ ρ i a)
    exact ⟨(E.live h).1, cutH_no fun z => n (E.sep i j a h z)⟩
  · have hj : i ≠ j := fun z => by subst z; exact np a e
    rw [List.getElem?_set_ne (Ne.symm hj)]
    exact E.pin i a e
/-- a callee takes over what slot j owns -/
theorem we_callC {G : GF} {E : XK} (h : WA B K ta ρ fun as ρ1 => ∃ pre post j l l1 l2 Pe, as = pre ++ .own j :: post ∧ ρ1[j]? = some (some l) ∧ (∀ a, B.pin ≠ some (j, a)) ∧ argL pre = some l1 ∧ argL post = some l2 ∧ G (l1 ++ l :: l2) (fun r _ => Q r (ρ1.set j none)) Pe ∧ ∀ C, Pe C → EK B K E C) :
    WE B K (tCall (SpG K none G) [] E ta) ρ Q := fun F H σ E0 QQ k =>
  h F H σ E0 _ fun vs as F1 H1 ρ1 E1 e1 av ⟨pre, post, j, l, l1, l2, Pe, ea, hj, np, hl1, hl2, hG, hE⟩ => by
    show SpG K none G (vs ++ []) H1 QQ E
    rw [List.append_nil]
    subst ea
    obtain ⟨us, ws, rfl, hu, au, aw⟩ := av.split
    cases aw with
    | @cons v ws a as hv aw =>
    obtain ⟨v', ha, sv⟩ := E1.sl j l hj
    rw [show σ[j]? = some (some v) from hv] at ha
    cases ha
    obtain ⟨n1, s1⟩ := args_sl (H := H1) au hl1
    obtain ⟨n2, s2⟩ := args_sl (H := H1) aw hl2
    have E2 := E1.lose np
    have A := args_own (H0 := ntb (cutH H1 (SFp σ ρ1 j))) (pin := none) (v := v) (l := l) rfl E1.fh E1.st.tt (ntb_tf _) (fun b o e => by
        have e := (ntb_of e).1
        by_cases c : SFp σ ρ1 j b
        · rw [cutH_yes c] at e; cases e
        · rw [cutH_no c] at e; exact e) n1 s1 n2 s2 sv (fun b hb => .inl (ntb_none (cutH_yes ⟨l, v, hj, hv, hb⟩))) (fun i b e => nomatch e)
    refine ⟨F1, ntb (cutH H1 (SFp σ ρ1 j)), l1 ++ l :: l2, fun r _ => Q r (ρ1.set j none), Pe, ⟨A, rfl⟩, hG, fun v r F' H' ys st rv _ q => ?_, fun C F' H' ys st _ hC => hE C hC F' H' σ _ (E2.step st.stp)⟩
    have E3 := E2.step st.stp
    exact k v r F' H' _ E3 (e1.trans st.f0) (ret_ok E3 E2.fr2 rv) q
/-! ### raise -/
def tRaiseE (E : XK) (C : Addr) : TS := fun _ _ H => E (.ref C) none H
theorem ws_raise {E : XK} {C : Addr} {Z : Zs} (h : EK B K E C) : WS B K (tRaiseE E C) ρ Z := fun F H σ E0 D ok => h F H σ ρ E0
end
theorem p_raise {X : Cx} {E : XK} {C : Addr} {e : Expr} {pos : Pos} (tk : Takes X (fun cls d _ H => E cls d H)) (mk : PMk X e (fun _ H Q => Q (.ref C) none H)) (hc : X.calm = true := by rfl) : PS X (.Raise (some e) none pos) (tRaiseE E C) := ps_raise hc tk mk
end SV

set_option maxHeartbeats 1000000
namespace SV
open PySem PySem.Spec L2
open Evl (Ex)
variable [Tbs]

abbrev rJoin (K : Fr) : V → List V → Hp → VK → Prop := fun x xs H Q => ∃ a p, ∃ ys : List Str, x = .str a ∧ xs = [.ref p] ∧ (SqL K H p (ys.map V.str) ∨ SqT K H p (ys.map V.str)) ∧ (ys.map (·.length)).sum + ys.length * a.length ≤ 16777216 ∧ Q (.str (Txt.join a ys)) H
/-! ### rules that the terms name -/
section
variable {X : Cx}
theorem ps_setO {i : Nat} {x : Str} {e : Expr} {te : TE} {pos pos' : Pos} (hN : X.N.Nodup) (hi : X.N[i]? = some x) (hx : Loc X.env.scope x) (he : PE X e te) (hs : swapsWith e (some (.Name x pos')) pos.line X.env = pure false := by rfl)
    (hf : X.fn x = true ∨ X.env.scope.names.lookup x = some .local := by first | exact .inl rfl | exact .inr rfl | assumption) : PS X (.Assign [.Name x pos'] e pos) (tAsgO te i) := ps_set hN hi hx he hs hf
end
/-! the rules, by the fragment that is named -/
section
variable {X : Cx} (K : Fr) (h : X.K = K := by rfl)
include h
theorem k_plus : OpR X (binaryOp .Add) (rPlus K) := h ▸ op_plus
theorem k_eqD (hu : X.A.units + 64 < cLine) : OpR X (compareOp .Eq) (rEqD K) := h ▸ op_eqD hu
theorem k_neD (hu : X.A.units + 64 < cLine) : OpR X (compareOp .NotEq) (rNeD K) := h ▸ op_neD hu
theorem k_inSeq : OpR X (compareOp .In) (rIn K false) := h ▸ op_in_seq
theorem k_niSeq : OpR X (compareOp .NotIn) (rIn K true) := h ▸ op_notIn_seq
theorem k_ix : IxR X (rIx K) := h ▸ ix_seq
theorem k_sl : SlR X (rSlAny K) := h ▸ sl_any
theorem k_len : CallR X (.builtin "len") (rLen K) := h ▸ call_len
theorem k_isi : CallR X (.builtin "isinstance") (rIsi K) := h ▸ call_isi
theorem k_isiT : CallR X (.builtin "isinstance") (rIsiT K) := h ▸ call_isiT
theorem k_max (hc : X.calm = true) : CallR X (.builtin "max") (rMax K) := h ▸ cr_max hc
theorem k_min (hc : X.calm = true) : CallR X (.builtin "min") (rMin K) := h ▸ cr_min hc
theorem k_sum (hc : X.calm = true) : CallR X (.builtin "sum") (rSum K) := h ▸ cr_sum hc
theorem k_all (hc : X.calm = true) : CallR X (.builtin "all") (rAll K) := h ▸ cr_all hc
theorem k_any (hc : X.calm = true) : CallR X (.builtin "any") (rAny K) := h ▸ cr_any hc
theorem k_listOf : CallR X (.type "list") (rListOf K) := h ▸ call_list_of
theorem k_tupOf : CallR X (.type "tuple") (rTupOf K) := h ▸ call_tuple_of
theorem k_piL {tg l : Expr} {tl : TE} (hl : PE X l tl) : PI X tg l (iList K tl) := h ▸ pi_list hl
theorem k_piT {tg l : Expr} {tl : TE} (hl : PE X l tl) : PI X tg l (iTup K tl) := h ▸ pi_tup hl
theorem k_gTup {es : List Expr} {k : Nat} {pos : Pos} {t : TGs} {n : Nat} (hc : X.calm = true) (hg : PGs X es t) (hn : (assignEach es X.env).length = n := by rfl) (hst : (assignEach es X.env).findIdx? (·.1) = none := by rfl) : PG X (.Tuple es k pos) (gTup K n t) := h ▸ pg_tup hc hg hn hst
theorem k_bm0 {o : Expr} {to : TE} {name : Str} {apos cpos : Pos} {T id : String} {r : V → List V → Hp → VK → Prop} (pa : PlainAttrs T) (slot : Slot T name id) (hty : typeOf (.builtin id) = pure (.type "method_descriptor")) (hm : MtR X id r) (ho : PE X o to)
    (hbase : attributeBase o name X.env (eval o X.env) = eval o X.env := by rfl) (hline : (apos.endLine == cpos.line) = true := by rfl) : PE X (.Call (.Attribute o name apos) [] [] cpos) (tBM0 K T r to) := h ▸ pe_bm0 pa slot hty hm ho hbase hline
theorem k_bm {o e : Expr} {es : List Expr} {to : TE} {t : TA} {name : Str} {apos cpos : Pos} {T id : String} {r : V → List V → Hp → VK → Prop} (pa : PlainAttrs T) (slot : Slot T name id) (hty : typeOf (.builtin id) = pure (.type "method_descriptor")) (hm : MtR X id r) (ho : PE X o to) (ha : PA X (e :: es) t)
    (hbase : attributeBase o name X.env (eval o X.env) = eval o X.env := by rfl)
    (hfew : ((backTo cpos (starEach (e :: es) X.env)).all (fun x => !x.1) && (backToKw cpos (keywordEach [] X.env)).all (fun x => x.1.isSome) && decide ((e :: es).length + ([] : List Keyword).length + (if ([] : List Keyword).isEmpty then 0 else 1) < 30)) = true := by rfl)
    (hline : (apos.endLine == cpos.line) = true := by rfl) (hs : starEach (e :: es) X.env = (false, eval e X.env) :: starEach es X.env := by rfl) (hplain : (backTo cpos (starEach es X.env)).any (·.1) = false := by rfl) :
    PE X (.Call (.Attribute o name apos) (e :: es) [] cpos) (tBM K T r to t) := h ▸ pe_bm pa slot hty hm ho ha hbase hfew hline hs hplain
theorem k_join {o e : Expr} {to te : TE} {apos pos : Pos} (ho : PE X o to) (he : PE X e te) (hs : starEach [e] X.env = [(false, eval e X.env)] := by rfl) (hbase : attributeBase o "join" X.env (eval o X.env) = eval o X.env := by rfl) (hline : (apos.endLine == pos.line) = true := by rfl) :
    PE X (.Call (.Attribute o "join" apos) [e] [] pos) (tM1 (rJoin K) to te) := h ▸ pe_join ho he hs hbase hline
end
/-! ### forks -/
section
variable {p : Prop} [Decidable p] {A B : Prop} {b : Bool}
theorem fk_dec (h1 : p → A) (h2 : ¬ p → B) : (decide p = true → A) ∧ (decide p = false → B) := ⟨fun h => h1 (of_decide_eq_true h), fun h => h2 (of_decide_eq_false h)⟩
theorem fk_not (h : (b = true → B) ∧ (b = false → A)) : ((!b) = true → A) ∧ ((!b) = false → B) := ⟨fun e => h.2 (by cases b <;> simp_all), fun e => h.1 (by cases b <;> simp_all)⟩
theorem fk_int {i j : Int} (h1 : i = j → A) (h2 : i ≠ j → B) : (PyData.eqv (.int i) (.int j) = true → A) ∧ (PyData.eqv (.int i) (.int j) = false → B) := by
  unfold PyData.eqv
  exact ⟨fun h => h1 (beq_iff_eq.mp h), fun h => h2 fun e => by rw [e, beq_self_eq_true] at h; cases h⟩
theorem fk_str {i j : Str} (h1 : i = j → A) (h2 : i ≠ j → B) : (PyData.eqv (.str i) (.str j) = true → A) ∧ (PyData.eqv (.str i) (.str j) = false → B) := by
  unfold PyData.eqv
  exact ⟨fun h => h1 (beq_iff_eq.mp h), fun h => h2 fun e => by rw [e, beq_self_eq_true] at h; cases h⟩
theorem fk_nil {xs : List PyData} (h1 : xs = [] → A) (h2 : xs ≠ [] → B) : (PyData.eqv (.list xs) (.list []) = true → A) ∧ (PyData.eqv (.list xs) (.list []) = false → B) := by
  cases xs with
  | nil => exact ⟨fun _ => h1 rfl, fun h => by simp [PyData.eqv, PyData.eqvAll] at h⟩
  | cons x xs => exact ⟨fun h => by simp [PyData.eqv, PyData.eqvAll] at h, fun _ => h2 fun z => nomatch z⟩
theorem fk_t (h : A) : (true = true → A) ∧ (true = false → B) := ⟨fun _ => h, (fun z => nomatch z)⟩
theorem fk_f (h : B) : (false = true → A) ∧ (false = false → B) := ⟨(fun z => nomatch z), fun _ => h⟩
end
/-! ### data that == may be asked of -/
inductive OkD : Nat → PyData → Prop
  | int {n : Nat} (i : Int) : OkD n (.int i)
  | bool {n : Nat} (b : Bool) : OkD n (.bool b)
  | none {n : Nat} : OkD n .none
  | str {n : Nat} {s : Str} : PyData.strOk s = true → OkD n (.str s)
  | list {n : Nat} {xs : List PyData} : (∀ x, x ∈ xs → OkD n x) → OkD (n + 1) (.list xs)
  | tuple {n : Nat} {xs : List PyData} : (∀ x, x ∈ xs → OkD n x) → OkD (n + 1) (.tuple xs)
theorem noDs_of {xs : List PyData} (h : ∀ x, x ∈ xs → noD x = true) : noDs xs = true := by
  induction xs with
  | nil => rfl
  | cons x xs ih =>
    unfold noDs
    rw [h x List.mem_cons_self, ih fun y hy => h y (List.mem_cons_of_mem _ hy)]
    rfl
theorem lays_of {xs : List PyData} (h : ∀ x, x ∈ xs → x.canLay0 = true) : PyData.canLayAll0 xs = true := by
  induction xs with
  | nil => rfl
  | cons x xs ih =>
    unfold PyData.canLayAll0
    rw [h x List.mem_cons_self, ih fun y hy => h y (List.mem_cons_of_mem _ hy)]
    rfl
theorem depths_of {n : Nat} {xs : List PyData} (h : ∀ x, x ∈ xs → x.depth ≤ n) : PyData.depthAll xs ≤ n := by
  induction xs with
  | nil => exact Nat.zero_le _
  | cons x xs ih =>
    unfold PyData.depthAll
    exact Nat.max_le.mpr ⟨h x List.mem_cons_self, ih fun y hy => h y (List.mem_cons_of_mem _ hy)⟩
theorem OkD.all {n : Nat} {x : PyData} (h : OkD n x) : noD x = true ∧ x.canLay0 = true ∧ x.depth ≤ n := by
  induction h with
  | int i => exact ⟨rfl, by unfold PyData.canLay0; rfl, by unfold PyData.depth; exact Nat.zero_le _⟩
  | bool i => exact ⟨rfl, by unfold PyData.canLay0; rfl, by unfold PyData.depth; exact Nat.zero_le _⟩
  | none => exact ⟨rfl, by unfold PyData.canLay0; rfl, by unfold PyData.depth; exact Nat.zero_le _⟩
  | str s => exact ⟨rfl, by unfold PyData.canLay0; exact s, by unfold PyData.depth; exact Nat.zero_le _⟩
  | list _ ih => exact ⟨noDs_of fun x hx => (ih x hx).1, by unfold PyData.canLay0; exact lays_of fun x hx => (ih x hx).2.1, by unfold PyData.depth; exact Nat.succ_le_succ (depths_of fun x hx => (ih x hx).2.2)⟩
  | tuple _ ih => exact ⟨noDs_of fun x hx => (ih x hx).1, by unfold PyData.canLay0; exact lays_of fun x hx => (ih x hx).2.1, by unfold PyData.depth; exact Nat.succ_le_succ (depths_of fun x hx => (ih x hx).2.2)⟩
theorem OkD.sh {n : Nat} {x : PyData} (h : OkD n x) (hn : n ≤ 64) : SeqAt.shaped x = true := by
  unfold SeqAt.shaped
  rw [h.all.2.1, decide_eq_true (Nat.le_trans h.all.2.2 hn)]
  rfl
theorem ok2 {x y : PyData} (hx : OkD 60 x) (hy : OkD 60 y) : noD x = true ∧ noD y = true ∧ SeqAt.shaped x = true ∧ SeqAt.shaped y = true := ⟨hx.all.1, hy.all.1, hx.sh (by decide), hy.sh (by decide)⟩
theorem ok2O {xs : List PyData} {y : PyData} (hx : OkD 60 (.list xs)) (hy : OkD 60 y) : noDs xs = true ∧ noD y = true ∧ SeqAt.shaped (.list xs) = true ∧ SeqAt.shaped y = true := ⟨by have := hx.all.1; unfold noD at this; exact this, hy.all.1, hx.sh (by decide), hy.sh (by decide)⟩
theorem OkD.nil {n : Nat} : OkD (n + 1) (.list []) := .list fun _ h => nomatch h
theorem OkD.ints {n : Nat} (ns : List Int) : OkD (n + 1) (.list (ns.map .int)) := .list fun x hx => by
  obtain ⟨i, _, rfl⟩ := List.mem_map.mp hx
  exact .int i
theorem OkD.strs {n : Nat} {ws : List Str} (h : ∀ w, w ∈ ws → PyData.strOk w = true) : OkD (n + 1) (.list (ws.map .str)) := .list fun x hx => by
  obtain ⟨i, hi, rfl⟩ := List.mem_map.mp hx
  exact .str (h i hi)
/-! ### == of data, where no truths stand among numbers -/
mutual
def noB : PyData → Bool
  | .bool _ => false
  | .dict _ => false
  | .list xs => noBs xs
  | .tuple xs => noBs xs
  | _ => true
def noBs : List PyData → Bool
  | [] => true
  | x :: xs => noB x && noBs xs
end
mutual
theorem eqv_iff : ∀ {x y : PyData}, noB x = true → noB y = true → (PyData.eqv x y = true ↔ x = y)
  | .none, y, _, h => by cases y <;> simp [PyData.eqv]
  | .bool _, _, h, _ => by simp [noB] at h
  | .dict _, _, h, _ => by simp [noB] at h
  | .int i, y, _, h => by cases y <;> simp [PyData.eqv, noB] at h ⊢
  | .str i, y, _, h => by cases y <;> simp [PyData.eqv] at h ⊢
  | .list xs, .list ys, h1, h2 => by
    unfold noB at h1 h2
    unfold PyData.eqv
    rw [eqvAll_iff h1 h2]
    exact ⟨fun e => by rw [e], fun e => by cases e; rfl⟩
  | .tuple xs, .tuple ys, h1, h2 => by
    unfold noB at h1 h2
    unfold PyData.eqv
    rw [eqvAll_iff h1 h2]
    exact ⟨fun e => by rw [e], fun e => by cases e; rfl⟩
  | .list xs, .none, _, _ => by simp [PyData.eqv]
  | .list xs, .bool _, _, h => by simp [noB] at h
  | .list xs, .dict _, _, h => by simp [noB] at h
  | .list xs, .int _, _, _ => by simp [PyData.eqv]
  | .list xs, .str _, _, _ => by simp [PyData.eqv]
  | .list xs, .tuple _, _, _ => by simp [PyData.eqv]
  | .tuple xs, .none, _, _ => by simp [PyData.eqv]
  | .tuple xs, .bool _, _, h => by simp [noB] at h
  | .tuple xs, .dict _, _, h => by simp [noB] at h
  | .tuple xs, .int _, _, _ => by simp [PyData.eqv]
  | .tuple xs, .str _, _, _ => by simp [PyData.eqv]
  | .tuple xs, .list _, _, _ => by simp [PyData.eqv]
theorem eqvAll_iff : ∀ {xs ys : List PyData}, noBs xs = true → noBs ys = true → (PyData.eqvAll xs ys = true ↔ xs = ys)
  | [], [], _, _ => by simp [PyData.eqvAll]
  | [], _ :: _, _, _ => by simp [PyData.eqvAll]
  | _ :: _, [], _, _ => by simp [PyData.eqvAll]
  | x :: xs, y :: ys, h1, h2 => by
    unfold noBs at h1 h2
    rw [Bool.and_eq_true] at h1 h2
    unfold PyData.eqvAll
    rw [Bool.and_eq_true, eqv_iff h1.1 h2.1, eqvAll_iff h1.2 h2.2]
    exact ⟨fun ⟨a, b⟩ => by rw [a, b], fun e => by cases e; exact ⟨rfl, rfl⟩⟩
end
theorem noBs_of {xs : List PyData} (h : ∀ x, x ∈ xs → noB x = true) : noBs xs = true := by
  induction xs with
  | nil => rfl
  | cons x xs ih =>
    unfold noBs
    rw [h x List.mem_cons_self, ih fun y hy => h y (List.mem_cons_of_mem _ hy)]
    rfl
theorem noB_ints (ns : List Int) : noB (.list (ns.map .int)) = true := by
  unfold noB
  exact noBs_of fun x hx => by obtain ⟨i, _, rfl⟩ := List.mem_map.mp hx; rfl
theorem noB_strs (ns : List Str) : noB (.list (ns.map .str)) = true := by
  unfold noB
  exact noBs_of fun x hx => by obtain ⟨i, _, rfl⟩ := List.mem_map.mp hx; rfl
/-- == of like data, as a fork -/
theorem fk_eqv {x y : PyData} {A B : Prop} (hx : noB x = true) (hy : noB y = true) (h1 : x = y → A) (h2 : x ≠ y → B) : (PyData.eqv x y = true → A) ∧ (PyData.eqv x y = false → B) :=
  ⟨fun h => h1 ((eqv_iff hx hy).mp h), fun h => h2 fun e => by rw [(eqv_iff hx hy).mpr e] at h; cases h⟩
/-! ### + and subscripts, by the values -/
theorem plus_int {i j : Int} {k : R → Prop} (h : k (.d (.int (i + j)))) : Plus (.int i) (.int j) k := h
theorem plus_str {s t : Str} {k : R → Prop} (h1 : s.length + t.length ≤ lim) (h : k (.d (.str (s ++ t)))) : Plus (.str s) (.str t) k := ⟨h1, h⟩
theorem plus_list {xs ys : List PyData} {k : R → Prop} (h1 : xs.length + ys.length ≤ lim) (h : k (.new (xs ++ ys))) : Plus (.list xs) (.list ys) k := ⟨h1, h⟩
theorem wd_plusI {B : Bs} {K : Fr} {ρ : En} {ta tb : TE} {QD : PyData → En → Prop} (h : WD B K ta ρ fun x ρ1 => ∃ i, x = .int i ∧ WD B K tb ρ1 fun y ρ2 => ∃ j, y = .int j ∧ QD (.int (i + j)) ρ2) : WD B K (tOp (rPlus K) ta tb) ρ QD :=
  wd_e (we_plus (wd_mono h fun x ρ1 ⟨i, hx, h2⟩ => by
    subst hx
    exact wd_mono h2 fun y ρ2 ⟨j, hy, q⟩ => by
      subst hy
      exact plus_int ⟨_, rfl, q⟩))
theorem len_map {α : Type} {f : α → PyData} {as : List α} {k : Int → Prop} (h : k as.length) : Len (.list (as.map f)) k := by
  show k (as.map f).length
  rw [List.length_map]
  exact h
theorem len_mapT {α : Type} {f : α → PyData} {as : List α} {k : Int → Prop} (h : k as.length) : Len (.tuple (as.map f)) k := by
  show k (as.map f).length
  rw [List.length_map]
  exact h
theorem len_list {xs : List PyData} {k : Int → Prop} (h : k xs.length) : Len (.list xs) k := h
theorem len_tup {xs : List PyData} {k : Int → Prop} (h : k xs.length) : Len (.tuple xs) k := h
theorem atI_map {α β : Type} {f : α → β} {xs : List α} {i : Int} {x : α} (h : atI xs i = some x) : atI (xs.map f) i = some (f x) := by
  unfold atI at h ⊢
  rw [List.length_map]
  cases e : ixN xs.length i with
  | none => rw [e] at h; cases h
  | some j =>
    rw [e] at h
    show (xs.map f)[j]? = _
    rw [List.getElem?_map, show xs[j]? = some x from h]
    rfl
theorem idx_map {α : Type} {f : α → PyData} {xs : List α} {i : Int} {x : α} {k : PyData → Prop} (h : atI xs i = some x) (q : k (f x)) : Idx (.list (xs.map f)) (.int i) k := ⟨_, atI_map h, q⟩
theorem idx_mapT {α : Type} {f : α → PyData} {xs : List α} {i : Int} {x : α} {k : PyData → Prop} (h : atI xs i = some x) (q : k (f x)) : Idx (.tuple (xs.map f)) (.int i) k := ⟨_, atI_map h, q⟩
theorem atI_pos {α : Type} {xs : List α} {i : Int} {n : Nat} (e : i = (n : Int)) (h : n < xs.length) : atI xs i = some xs[n] := by
  subst e
  exact atI_nat (List.getElem?_eq_getElem h)
theorem idx_list {xs : List PyData} {i : Int} {d : PyData} {k : PyData → Prop} (h : atI xs i = some d) (q : k d) : Idx (.list xs) (.int i) k := ⟨d, h, q⟩
theorem idx_tup {xs : List PyData} {i : Int} {d : PyData} {k : PyData → Prop} (h : atI xs i = some d) (q : k d) : Idx (.tuple xs) (.int i) k := ⟨d, h, q⟩
theorem idx_str {z : Str} {i : Int} {c : Nat} {k : PyData → Prop} (hz : z.length ≤ lim) (h : atI z.cps.toList i = some c) (q : k (.str ⟨#[c]⟩)) : Idx (.str z) (.int i) k := ⟨hz, c, h, q⟩
/-! ### an own list is given away, or frozen where it stands -/
/-- a slot's own thing is given away -/
theorem EnvOk.giveL {B : Bs} {K : Fr} {F H : Hp} {σ : L2.St} {ρ : En} (E : EnvOk B K F H σ ρ) {j : Nat} {l : L} (hj : ρ[j]? = some (some l)) (np : NP B j) :
    ∃ v, σ[j]? = some (some v) ∧ EnvOk B K F H σ (ρ.set j none) ∧ SlotOk K F H v l ∧ ∀ a, LFp v l a → B.H0 a = none ∧ ∀ i, ¬ SFp σ (ρ.set j none) i a := by
  obtain ⟨v, e, s⟩ := E.sl j l hj
  refine ⟨v, e, E.weak (List.length_set ..) (fun i l h => (set_none h).2) fun i b hb => ?_, s, fun a ha => ⟨?_, fun i ⟨m, w, q1, q2, q3⟩ => ?_⟩⟩
  · have : i ≠ j := fun z => by subst z; exact np b hb
    rw [List.getElem?_set_ne (Ne.symm this)]
  · exact (E.mine j a ⟨l, v, hj, e, ha⟩).elim id fun h => absurd h (np a)
  · obtain ⟨n, q⟩ := set_none q1
    exact n (E.sep i j a ⟨m, w, q, q2, q3⟩ ⟨l, v, hj, e, ha⟩)
theorem EnvOk.give {B : Bs} {K : Fr} {F H : Hp} {σ : L2.St} {ρ : En} (E : EnvOk B K F H σ ρ) {j : Nat} {xs : List PyData} (hj : ρ[j]? = some (some (.own xs))) (np : NP B j) :
    ∃ v, σ[j]? = some (some v) ∧ EnvOk B K F H σ (ρ.set j none) ∧ ROk B K F H σ (ρ.set j none) v (.new xs) := by
  obtain ⟨v, e, E', ⟨a, vs, rfl, k1, k2, k3⟩, hf⟩ := E.giveL hj np
  exact ⟨_, e, E', a, vs, rfl, k1, k2, k3, (hf a rfl).1, (hf a rfl).2⟩
theorem EnvOk.giveT {B : Bs} {K : Fr} {F H : Hp} {σ : L2.St} {ρ : En} (E : EnvOk B K F H σ ρ) {j : Nat} {t : OT} (hj : ρ[j]? = some (some (.deep t))) (np : NP B j) :
    ∃ v, σ[j]? = some (some v) ∧ EnvOk B K F H σ (ρ.set j none) ∧ ROk B K F H σ (ρ.set j none) v (.deep t) := by
  obtain ⟨v, e, E', s, hf⟩ := E.giveL hj np
  exact ⟨_, e, E', s.1, s.2, fun a ha => hf a ha⟩
theorem EnvOk.giveD {B : Bs} {K : Fr} {F H : Hp} {σ : L2.St} {ρ : En} (E : EnvOk B K F H σ ρ) {j : Nat} {ks : List Key} {xs : List PyData} (hj : ρ[j]? = some (some (.ownD ks xs))) (np : NP B j) :
    ∃ v, σ[j]? = some (some v) ∧ EnvOk B K F H σ (ρ.set j none) ∧ ROk B K F H σ (ρ.set j none) v (.newD ks xs) := by
  obtain ⟨v, e, E', ⟨a, vs, rfl, k1, k2, hl, k3⟩, hf⟩ := E.giveL hj np
  exact ⟨_, e, E', a, vs, rfl, k1, k2, hl, k3, (hf a rfl).1, (hf a rfl).2⟩
theorem we_take {B : Bs} {K : Fr} {ρ : En} {Q : R → En → Prop} {j : Nat} {xs : List PyData} (hj : ρ[j]? = some (some (.own xs))) (np : NP B j) (q : Q (.new xs) (ρ.set j none)) : WE B K (tVar j) ρ Q := fun F H σ E QQ k => by
  obtain ⟨v, e, E', r⟩ := E.give hj np
  exact ⟨v, e, k v (.new xs) F H _ E' (Ex.refl F) r q⟩
theorem ws_retO {B : Bs} {K : Fr} {ρ : En} {Z : Zs} {j : Nat} {xs : List PyData} (hj : ρ[j]? = some (some (.own xs))) (np : NP B j) (q : Z.rt (.new xs) (ρ.set j none)) : WS B K (tRet (tVar j)) ρ Z := ws_ret (we_take hj np q)
theorem wd_frz {B : Bs} {K : Fr} {ρ : En} {QD : PyData → En → Prop} {j : Nat} {xs : List PyData} (hj : ρ[j]? = some (some (.own xs))) (np : NP B j) (q : QD (.list xs) (ρ.set j (some (.d (.list xs))))) : WD B K (tVar j) ρ QD := fun F H σ E QQ k => by
  obtain ⟨v, e, E', r⟩ := E.give hj np
  obtain ⟨F', E2, e2, r2⟩ := E'.asD (r := .new xs) r rfl
  refine ⟨v, e, k v (.list xs) F' H _ ?_ e2 r2 q⟩
  have E3 := E2.setD (i := j) (l := .d (.list xs)) r2 rfl np
  have hl : j < σ.length := (List.getElem?_eq_some_iff.mp e).1
  have e3 : σ.set j (some v) = σ := by
    refine List.ext_getElem? fun i => ?_
    by_cases c : i = j
    · subst c; rw [List.getElem?_set_self hl, e]
    · rw [List.getElem?_set_ne (Ne.symm c)]
  rw [e3, List.set_set] at E3
  exact E3
theorem we_takeT {B : Bs} {K : Fr} {ρ : En} {Q : R → En → Prop} {j : Nat} {t : OT} (hj : ρ[j]? = some (some (.deep t))) (np : NP B j) (q : Q (.deep t) (ρ.set j none)) : WE B K (tVar j) ρ Q := fun F H σ E QQ k => by
  obtain ⟨v, e, E', r⟩ := E.giveT hj np
  exact ⟨v, e, k v (.deep t) F H _ E' (Ex.refl F) r q⟩
theorem we_takeD {B : Bs} {K : Fr} {ρ : En} {Q : R → En → Prop} {j : Nat} {ks : List Key} {xs : List PyData} (hj : ρ[j]? = some (some (.ownD ks xs))) (np : NP B j) (q : Q (.newD ks xs) (ρ.set j none)) : WE B K (tVar j) ρ Q := fun F H σ E QQ k => by
  obtain ⟨v, e, E', r⟩ := E.giveD hj np
  exact ⟨v, e, k v (.newD ks xs) F H _ E' (Ex.refl F) r q⟩
theorem ws_retT {B : Bs} {K : Fr} {ρ : En} {Z : Zs} {j : Nat} {t : OT} (hj : ρ[j]? = some (some (.deep t))) (np : NP B j) (q : Z.rt (.deep t) (ρ.set j none)) : WS B K (tRet (tVar j)) ρ Z := ws_ret (we_takeT hj np q)
theorem ws_retD {B : Bs} {K : Fr} {ρ : En} {Z : Zs} {j : Nat} {ks : List Key} {xs : List PyData} (hj : ρ[j]? = some (some (.ownD ks xs))) (np : NP B j) (q : Z.rt (.newD ks xs) (ρ.set j none)) : WS B K (tRet (tVar j)) ρ Z := ws_ret (we_takeD hj np q)
theorem wd_frzT {B : Bs} {K : Fr} {ρ : En} {QD : PyData → En → Prop} {j : Nat} {t : OT} (hj : ρ[j]? = some (some (.deep t))) (np : NP B j) (hd : t.isD = true) (q : QD t.data (ρ.set j (some (.d t.data)))) : WD B K (tVar j) ρ QD := fun F H σ E QQ k => by
  obtain ⟨v, e, E', r⟩ := E.giveT hj np
  obtain ⟨F', E2, e2, r2⟩ := E'.asD (r := .deep t) (x := t.data) r (by unfold R.toD; simp only [hd, if_true])
  refine ⟨v, e, k v _ F' H _ ?_ e2 r2 q⟩
  have E3 := E2.setD (i := j) (l := .d t.data) r2 rfl np
  have hl : j < σ.length := (List.getElem?_eq_some_iff.mp e).1
  have e3 : σ.set j (some v) = σ := by
    refine List.ext_getElem? fun i => ?_
    by_cases c : i = j
    · subst c; rw [List.getElem?_set_self hl, e]
    · rw [List.getElem?_set_ne (Ne.symm c)]
  rw [e3, List.set_set] at E3
  exact E3
theorem wt_yes {B : Bs} {K : Fr} {ρ : En} {QT : Bool → En → Prop} (h : QT true ρ) : WT B K tYes ρ QT := fun F H σ E QQ k => k true F H ρ E (Ex.refl F) h
/-! ### % and // by a number above 0 -/
theorem wd_modP {B : Bs} {K : Fr} {ρ : En} {ta tb : TE} {QD : PyData → En → Prop} (h : WD B K ta ρ fun x ρ1 => ∃ i, x = .int i ∧ WD B K tb ρ1 fun y ρ2 => ∃ j, y = .int j ∧ 0 < j ∧ QD (.int (i % j)) ρ2) : WD B K (tOp (rI (fun _ j => j ≠ 0) fun i j => .int (i.fmod j)) ta tb) ρ QD :=
  wd_iop (C := fun _ j => j ≠ 0) (g := fun i j => i.fmod j) (wd_mono h fun x ρ1 ⟨i, hx, h2⟩ => ⟨i, hx, wd_mono h2 fun y ρ2 ⟨j, hy, hj, q⟩ => ⟨j, hy, Int.ne_of_gt hj, by rw [Int.fmod_eq_emod_of_nonneg i (Int.le_of_lt hj)]; exact q⟩⟩)
theorem wd_divP {B : Bs} {K : Fr} {ρ : En} {ta tb : TE} {QD : PyData → En → Prop} (h : WD B K ta ρ fun x ρ1 => ∃ i, x = .int i ∧ WD B K tb ρ1 fun y ρ2 => ∃ j, y = .int j ∧ (0 < j ∧ j < 1073741824) ∧ QD (.int (i / j)) ρ2) : WD B K (tOp (rI CDivN fun i j => .int (i.fdiv j)) ta tb) ρ QD :=
  wd_iop (C := CDivN) (g := fun i j => i.fdiv j) (wd_mono h fun x ρ1 ⟨i, hx, h2⟩ => ⟨i, hx, wd_mono h2 fun y ρ2 ⟨j, hy, hj, q⟩ => ⟨j, hy, ⟨Int.ne_of_gt hj.1, by omega⟩, by rw [Int.fdiv_eq_ediv_of_nonneg i (Int.le_of_lt hj.1)]; exact q⟩⟩)
theorem wd_mulP {B : Bs} {K : Fr} {ρ : En} {ta tb : TE} {QD : PyData → En → Prop} (h : WD B K ta ρ fun x ρ1 => ∃ i, x = .int i ∧ WD B K tb ρ1 fun y ρ2 => ∃ j, y = .int j ∧ CMul i j ∧ QD (.int (i * j)) ρ2) : WD B K (tOp (rI CMul fun i j => .int (i * j)) ta tb) ρ QD :=
  wd_iop (C := CMul) (g := fun i j => i * j) h
/-! ### sep.join(xs) -/
theorem wd_join {B : Bs} {K : Fr} {ρ : En} {ta tb : TE} {QD : PyData → En → Prop} (h : WD B K ta ρ fun x ρ1 => ∃ a, x = .str a ∧ WD B K tb ρ1 fun y ρ2 => ∃ ys : List Str, y = .list (ys.map .str) ∧ (ys.map (·.length)).sum + ys.length * a.length ≤ 16777216 ∧ QD (.str (Txt.join a ys)) ρ2) : WD B K (tM1 (rJoin K) ta tb) ρ QD := fun F H σ E QQ k =>
  h F H σ E _ fun v x F1 H1 ρ1 E1 e1 rv ⟨a, hx, q⟩ => by
    subst hx
    cases rv
    refine ⟨⟨a, rfl⟩, q F1 H1 σ E1 _ fun u y F2 H2 ρ2 E2 e2 ru ⟨ys, hy, hz, q2⟩ => ?_⟩
    subst hy
    cases ru with
    | @lst p vs xs hp ra =>
    have e := ra.strs
    subst e
    exact ⟨a, p, ys, rfl, rfl, .inl (.inl (.inl (E2.fh _ _ hp))), hz, k _ _ F2 H2 ρ2 E2 (e1.trans e2) (.str _) q2⟩
theorem wd_joinO {B : Bs} {K : Fr} {ρ : En} {a : Str} {j : Nat} {ys : List Str} {QD : PyData → En → Prop} (hj : ρ[j]? = some (some (.own (ys.map .str)))) (hz : (ys.map (·.length)).sum + ys.length * a.length ≤ 16777216) (q : QD (.str (Txt.join a ys)) ρ) : WD B K (tM1 (rJoin K) (tC (.str a)) (tVar j)) ρ QD := fun F H σ E QQ k => by
  obtain ⟨p, vs, e, _, k2, k3⟩ := E.own_at hj
  have e3 := k3.strs
  subst e3
  exact ⟨⟨a, rfl⟩, .ref p, e, a, p, ys, rfl, rfl, .inl (.inl (.inl k2)), hz, k _ _ F H ρ E (Ex.refl F) (.str _) q⟩
/-! ### one sign in a text -/
abbrev rInS1 : R2 := fun x y H Q => ∃ (c : Nat) (z : Str), x = .str ⟨#[c]⟩ ∧ y = .str z ∧ Q (.bl (decide (c ∈ z.cps.toList))) H
abbrev rNiS1 : R2 := fun x y H Q => ∃ (c : Nat) (z : Str), x = .str ⟨#[c]⟩ ∧ y = .str z ∧ Q (.bl (!decide (c ∈ z.cps.toList))) H
theorem wd_inSign {B : Bs} {K : Fr} {ρ : En} {ta tb : TE} {QD : PyData → En → Prop} (h : WD B K ta ρ fun x ρ1 => ∃ c, x = .str ⟨#[c]⟩ ∧ WD B K tb ρ1 fun y ρ2 => ∃ z, y = .str z ∧ QD (.bool (decide (c ∈ z.cps.toList))) ρ2) : WD B K (tOp rInS1 ta tb) ρ QD := fun F H σ E QQ k =>
  h F H σ E _ fun v x F1 H1 ρ1 E1 e1 rv ⟨i, hx, q⟩ => q F1 H1 σ E1 _ fun u y F2 H2 ρ2 E2 e2 ru ⟨j, hy, q2⟩ => by
    subst hx hy
    cases rv; cases ru
    exact ⟨i, j, rfl, rfl, k _ _ F2 H2 ρ2 E2 (e1.trans e2) (.bl _) q2⟩
theorem wd_niSign {B : Bs} {K : Fr} {ρ : En} {ta tb : TE} {QD : PyData → En → Prop} (h : WD B K ta ρ fun x ρ1 => ∃ c, x = .str ⟨#[c]⟩ ∧ WD B K tb ρ1 fun y ρ2 => ∃ z, y = .str z ∧ QD (.bool (!decide (c ∈ z.cps.toList))) ρ2) : WD B K (tOp rNiS1 ta tb) ρ QD := fun F H σ E QQ k =>
  h F H σ E _ fun v x F1 H1 ρ1 E1 e1 rv ⟨i, hx, q⟩ => q F1 H1 σ E1 _ fun u y F2 H2 ρ2 E2 e2 ru ⟨j, hy, q2⟩ => by
    subst hx hy
    cases rv; cases ru
    exact ⟨i, j, rfl, rfl, k _ _ F2 H2 ρ2 E2 (e1.trans e2) (.bl _) q2⟩
/-! ### what the top has written -/
abbrev veX : List Value := [.type "ValueError", .type "Exception", .type "BaseException", .type "object"]
structure ExcT (K : Fr) (mg : Str → Option Value) (nm : Str) (a : Addr) : Prop where
  g : mg nm = some (.ref a)
  x : PySem.W.excIn K a veX "ValueError.__new__" = true
  k : PySem.W.keepIn K (.ref a) = true
  b : PySem.W.subIn K (.ref a) (.type "BaseException") = some true
  t : PySem.W.typeIn K (.ref a) = some (.type "type")
structure Df (K : Fr) (mg : Str → Option Value) (nm : Str) (st : Stmt) (ps : List Str) (f : Addr) (fd : FuncData) : Prop where
  F : Fun K nm nm st f fd
  g : mg nm = some (.ref f)
  b : Binds K fd ps []
theorem Df.kp {K : Fr} {mg : Str → Option Value} {nm : Str} {st : Stmt} {ps : List Str} {f : Addr} {fd : FuncData} (d : Df K mg nm st ps f fd) : PySem.W.keepIn K (.ref f) = true := d.F.kp
theorem ntb_sl {K : Fr} {H : Hp} {a : Addr} {xs : List V} (h : SqL K H a xs) : SqL K (ntb H) a xs := by
  rcases h with (h | ⟨o, h⟩) | h
  · exact .inl (.inl (ntb_at h fun ps z => by cases z))
  · exact .inl (.inr ⟨o, ntb_at h fun ps z => by cases z⟩)
  · exact .inr h
/-- the law's own meaning: True -/
def G_law : GF := fun ls Po _ => ∃ ns : List Int, ls = [.scr ns] ∧ ns.length ≤ 63 ∧ Po (.d (.bool true)) []
theorem law_sp {K : Fr} {H : Hp} {a : Addr} {ns : List Int} (hT : LamX.Tabs (Tbs.T.map (·.2)) H) (hS : SqL K H a (ns.map V.int)) (hl : ns.length ≤ 63) : SpG K none G_law [.ref a] H (fun v _ => v = .bl true) fun _ _ _ => False := by
  refine ⟨ntb H, ntb H, [.scr ns], fun r _ => r = .d (.bool true), fun _ => False, args_pl (vs := [.ref a]) (ntb_ex H) ⟨ntb_tf H, hT⟩ rfl (fun i l e => ?_), ⟨ns, rfl, hl, rfl⟩, fun v r F' H' ys st rv _ q => ?_, fun C F' H' ys _ _ h => h⟩
  · cases i with
    | zero => cases e; exact ⟨⟨.ref a, rfl, a, rfl, ntb_sl hS⟩, rfl⟩
    | succ i => simp at e
  · subst q
    cases (show Rp K F' v (.bool true) from rv)
    rfl
end SV

set_option maxHeartbeats 1000000
namespace SV
open PySem PySem.Spec L2
open Evl (Ex)
variable [Tbs]
/-! ### try: f(..) except C as e: what a refusal is -/
def tTry (K : Fr) (c : Value) (i : Nat) (tb : WX → TS) (ts : Addr → Value → Option Addr → TS) : TS := fun D σ H => tb (wAs K c i ts (fun _ _ _ _ => False) D) D σ H
section
variable {X : Cx} {x n : Str} {c : Value} {i : Nat} {body suite : List Stmt} {b0 : Stmt} {np pos pos' : Pos} {tb : WX → TS} {ts : Addr → Value → Option Addr → TS}
theorem k_try (K : Fr) (hK : X.K = K) (hs : X.stack = X.env :: X.outer) (hf : X.env.frame = some X.env.locals) (hN : X.N.Nodup) (hi : X.N[i]? = some n) (hln : X.env.kindOf n = some .local) (hc : Names X x c)
    (hb : ∀ (W : WX) (pn : List (Addr × Obj)) (xe : Value → Shared → Prop), Takes (X.tr pn xe) W → PassesOwn (model X.prog X.w) X.A X.env xe → PSs (X.tr pn xe) body (tb W))
    (hsu : ∀ (a : Addr) (oe : Obj) (cls : Value) (d : Option Addr) (pn : List (Addr × Obj)), Zc cls d oe → (∃ vs, oe.data = .fields vs) → PSs (X.suite a ((a, oe) :: pn)) (b0 :: suite) (ts a cls d)) :
    PS X (.Try body [.ExceptHandler (some (.Name x np)) (some n) (b0 :: suite) pos'] [] [] pos) (tTry K c i tb ts) := hK ▸ ps_try_as (Wout := fun _ _ _ _ => False) hs hf hN hi hln hc takes0 hb hsu
end
/-! isinstance of the error that a suite holds -/
abbrev rIsX (K : Fr) (a : Addr) (cls : Value) (d : Option Addr) : List V → Hp → VK → Prop := fun xs H Q => ∃ (D : Addr) (c : V) (cv : Value) (b : Bool), cls = .ref D ∧ d = none ∧ ExcC K D ∧ xs = [.ref a, c] ∧ ClsV c cv ∧ PySem.W.kitOne K (.ref D) cv = some b ∧ Q (.bl b) H
abbrev rIsXT (K : Fr) (a : Addr) (cls : Value) (d : Option Addr) : List V → Hp → VK → Prop := fun xs H Q => ∃ (D : Addr) (tp : Addr) (cs : List V) (us : List Value) (b : Bool), cls = .ref D ∧ d = none ∧ ExcC K D ∧ xs = [.ref a, .ref tp] ∧ H tp = some (.tup cs) ∧ Paired ClsV cs us ∧ PySem.W.kitAny K (.ref D) us = some b ∧ Q (.bl b) H
theorem k_isx {X : Cx} {a : Addr} {oe : Obj} {cls : Value} {d : Option Addr} {pn : List (Addr × Obj)} (K : Fr) (hz : Zc cls d oe) (hf : ∃ vs, oe.data = .fields vs) (h : X.K = K := by rfl) : CallR (X.suite a ((a, oe) :: pn)) (.builtin "isinstance") (rIsX K a cls d) := by
  subst h
  intro pins s σ H xs us Q I r hh
  obtain ⟨D, c, cv, b, rfl, rfl, C, rfl, k, e, q⟩ := hh
  exact call_isE C hz hf pins s σ H _ us Q I r ⟨c, cv, b, rfl, fun u hu => k.eq hu, e, q⟩
theorem k_isxT {X : Cx} {a : Addr} {oe : Obj} {cls : Value} {d : Option Addr} {pn : List (Addr × Obj)} (K : Fr) (hz : Zc cls d oe) (hf : ∃ vs, oe.data = .fields vs) (h : X.K = K := by rfl) : CallR (X.suite a ((a, oe) :: pn)) (.builtin "isinstance") (rIsXT K a cls d) := by
  subst h
  intro pins s σ H xs us Q I r hh
  obtain ⟨D, tp, cs, ws, b, rfl, rfl, C, rfl, hT, k, e, q⟩ := hh
  obtain ⟨u1, u2, rfl, r1, r2⟩ := vals2 r
  cases (show u1 = Value.ref a from r1)
  cases (show u2 = Value.ref tp from r2)
  obtain ⟨hget, _⟩ := I.pin (a, oe) (List.mem_append.mpr (.inl List.mem_cons_self))
  obtain ⟨vs, hv⟩ := hf
  have J : PySem.W.InstAt s.heap a oe D none := by
    obtain ⟨oc, od, oda, osl⟩ := oe
    obtain ⟨z1, z2⟩ := hz
    dsimp only at z1 z2 hv
    subst z1 z2 hv
    exact ⟨hget, rfl, rfl, trivial⟩
  obtain ⟨_, its, rv, o, h1, h2, n, h3⟩ := (show ObjOk X.prog X.w H s.heap tp (.tup cs) from I.hok tp _ hT)
  have e3 := ClsV.all k rv
  subst e3
  obtain ⟨oc, od, dt, sl⟩ := o
  simp only at h2 h3
  subst h2 h3
  exact PySem.W.kia_tup (PySem.W.handS_kitx_exc C.hg C.hk C.hs C.hd C.ha C.hn C.ht C.hm) I.kIn J h1 e (fun z => nomatch z) fun tk => ⟨.bl b, H, I.tok tk, rfl, q⟩
/-! ### what a try lets its body raise -/
/-- class C may be raised where the slots read as ρ -/
def EKr (B : Bs) (K : Fr) (W : WX) (C : Addr) (ρ : En) : Prop := ∀ F H σ, EnvOk B K F H σ ρ → W (.ref C) none σ H
abbrev Bs.up (B : Bs) (F : Hp) : Bs := ⟨F, B.H0, B.pin⟩
def tTryO (K : Fr) (c : Value) (tb : WX → TS) (ts : Addr → Value → Option Addr → TS) : TS := fun D σ H => tb (wOnly K c ts (fun _ _ _ _ => False) D) D σ H
section
variable {X : Cx} {x : Str} {c : Value} {body suite : List Stmt} {b0 : Stmt} {np pos pos' : Pos} {tb : WX → TS} {ts : Addr → Value → Option Addr → TS}
theorem k_tryO (K : Fr) (hK : X.K = K) (hs : X.stack = X.env :: X.outer) (hf : X.env.frame = some X.env.locals) (hc : Names X x c)
    (hb : ∀ (W : WX) (pn : List (Addr × Obj)) (xe : Value → Shared → Prop), Takes (X.tr pn xe) W → PassesOwn (model X.prog X.w) X.A X.env xe → PSs (X.tr pn xe) body (tb W))
    (hsu : ∀ (a : Addr) (oe : Obj) (cls : Value) (d : Option Addr) (pn : List (Addr × Obj)), Zc cls d oe → (∃ vs, oe.data = .fields vs) → PSs (X.suite a ((a, oe) :: pn)) (b0 :: suite) (ts a cls d)) :
    PS X (.Try body [.ExceptHandler (some (.Name x np)) none (b0 :: suite) pos'] [] [] pos) (tTryO K c tb ts) := hK ▸ ps_try_only (Wout := fun _ _ _ _ => False) hs hf hc takes0 hb hsu
end
section
variable {B : Bs} {K : Fr} {F H : Hp} {σ : L2.St} {ρ : En} {ta : TA} {Q : R → En → Prop} {QD : PyData → En → Prop} {Z : Zs}
theorem EnvOk.upB (E : EnvOk B K F H σ ρ) : EnvOk (B.up F) K F H σ ρ :=
  ⟨⟨Ex.refl F, E.st.fh, E.st.h0, E.st.th, fun a h1 _ => h1, E.st.tf, E.st.tab⟩, E.len, E.sl, E.sep, E.mine, E.pin⟩
theorem EnvOk.dnB {F0 H0 : Hp} (E0 : St1 B F0 H0) (E : EnvOk (B.up F0) K F H σ ρ) : EnvOk B K F H σ ρ :=
  ⟨⟨E0.f0.trans E.st.f0, E.st.fh, E.st.h0, E.st.th, fun a h1 h2 => E.st.nf a (E0.nf a h1 h2) h2, E.st.tf, E.st.tab⟩, E.len, E.sl, E.sep, E.mine, E.pin⟩
theorem ZOk.upB {F0 : Hp} {H0 : Hp} {D : Ends} (E0 : St1 B F0 H0) (ok : ZOk B K F0 Z D) : ∀ F1, ZOk (B.up F0) K F1 Z D := fun F1 =>
  ⟨fun F H σ ρ E e => ok.nx F H σ ρ (E.dnB E0) E.st.f0, fun F H σ ρ v r E e rv => ok.rt F H σ ρ v r (E.dnB E0) E.st.f0 rv, fun F H σ ρ E e => ok.bk F H σ ρ (E.dnB E0) E.st.f0, fun F H σ ρ E e => ok.ct F H σ ρ (E.dnB E0) E.st.f0⟩
/-- try: body, except C as slot i -/
theorem ws_try {c : Value} {i : Nat} {tb : WX → TS} {ts : Addr → Value → Option Addr → TS} (np : NP B i) (S : Addr → En → Prop)
    (h : ∀ (F0 : Hp) (W : WX), (∀ C ρ1, S C ρ1 → EKr (B.up F0) K W C ρ1) → WS (B.up F0) K (tb W) ρ Z)
    (hs : ∀ (F0 : Hp) C ρ1, S C ρ1 → PySem.W.exmOne K (.ref C) c = some true ∧ ∀ a, WS (B.up F0) K (ts a (.ref C) none) (ρ1.set i (some (.raw (.ref a)))) ⟨fun ρ2 => Z.nx (ρ2.set i none), Z.rt, fun ρ2 => Z.bk (ρ2.set i none), fun ρ2 => Z.ct (ρ2.set i none)⟩) :
    WS B K (tTry K c i tb ts) ρ Z := fun F H σ E D ok => by
  have Zu := ok.upB E.st
  refine h F _ (fun C ρ1 hS F1 H1 σ1 E1 => ?_) F H σ E.upB D (Zu F)
  obtain ⟨hm, hw⟩ := hs F C ρ1 hS
  refine ⟨true, hm, fun _ a ha => ?_, fun z => nomatch z⟩
  have z1 := Zu F1
  exact hw a F1 H1 _ (E1.setD (l := .raw (.ref a)) rfl rfl np) _ ⟨fun F2 H2 σ2 ρ2 E2 e2 q => z1.nx F2 H2 _ _ (E2.forget np) e2 q, fun F2 H2 σ2 ρ2 v r E2 e2 rv q => z1.rt F2 H2 σ2 ρ2 v r E2 e2 rv q, fun F2 H2 σ2 ρ2 E2 e2 q => z1.bk F2 H2 _ _ (E2.forget np) e2 q, fun F2 H2 σ2 ρ2 E2 e2 q => z1.ct F2 H2 _ _ (E2.forget np) e2 q⟩
/-- try: body, except C without a name -/
theorem ws_tryO {c : Value} {tb : WX → TS} {ts : Addr → Value → Option Addr → TS} (S : Addr → En → Prop)
    (h : ∀ (F0 : Hp) (W : WX), (∀ C ρ1, S C ρ1 → EKr (B.up F0) K W C ρ1) → WS (B.up F0) K (tb W) ρ Z)
    (hs : ∀ (F0 : Hp) C ρ1, S C ρ1 → PySem.W.exmOne K (.ref C) c = some true ∧ ∀ a, WS (B.up F0) K (ts a (.ref C) none) ρ1 Z) :
    WS B K (tTryO K c tb ts) ρ Z := fun F H σ E D ok => by
  have Zu := ok.upB E.st
  refine h F _ (fun C ρ1 hS F1 H1 σ1 E1 => ?_) F H σ E.upB D (Zu F)
  obtain ⟨hm, hw⟩ := hs F C ρ1 hS
  exact ⟨true, hm, fun _ a ha => hw a F1 H1 _ E1 _ (Zu F1), fun z => nomatch z⟩
/-- a call within a try's body -/
theorem we_callS {G : GF} {W : WX} (h : WA B K ta ρ fun as ρ1 => ∃ ls Pe, argL as = some ls ∧ G ls (fun r _ => Q r ρ1) Pe ∧ ∀ C, Pe C → EKr B K W C ρ1) : WE B K (tCallS (SpG K none G) (L2.WE W) ta) ρ Q := fun F H σ E0 QQ k =>
  h F H σ E0 _ fun vs as F1 H1 ρ1 E1 e1 av ⟨ls, Pe, ha, hG, hE⟩ => by
    show SpG K none G vs H1 QQ (L2.WE W σ)
    obtain ⟨hl, hs⟩ := args_sl (H := H1) av ha
    exact ⟨F1, ntb H1, ls, fun r _ => Q r ρ1, Pe, args_pl E1.fh E1.st.tt hl hs, hG, fun v r F' H' ys st rv _ q =>
      have E2 := E1.step st.stp
      k v r F' H' ρ1 E2 (e1.trans st.stp.ef) (ret_ok E2 E1.fr2 rv) q, fun C F' H' ys st _ hC => hE C hC F' H' σ (E1.step st.stp)⟩
theorem wd_isx {i : Nat} {a D : Addr} {c : V} {cv : Value} {b : Bool} (hi : ρ[i]? = some (some (.raw (.ref a)))) (C : ExcC K D) (k : ClsV c cv) (e : PySem.W.kitOne K (.ref D) cv = some b) (q : QD (.bool b) ρ) : WD B K (tCB (rIsX K a (.ref D) none) (tCons (tVar i) (tCons (tC c) tNil))) ρ QD := fun F H σ E QQ kk => by
  obtain ⟨v, hv, sv⟩ := E.sl i _ hi
  cases (show v = .ref a from sv)
  exact ⟨_, hv, D, c, cv, b, rfl, rfl, C, rfl, k, e, kk _ _ F H ρ E (Ex.refl F) (.bl b) q⟩
/-- a row of classes -/
inductive Cts : TA → List V → List Value → Prop
  | nil : Cts tNil [] []
  | cons {a : Addr} {t : TA} {cs : List V} {us : List Value} (h : Cts t cs us) : Cts (tCons (tC (.ref a)) t) (.ref a :: cs) (.ref a :: us)
theorem Cts.run {t : TA} {cs : List V} {us : List Value} (h : Cts t cs us) (σ : L2.St) (H : Hp) {Q : List V → Hp → Prop} (q : Q cs H) : t σ H Q := by
  induction h generalizing Q with
  | nil => exact q
  | cons h ih => exact ih q
theorem Cts.pair {t : TA} {cs : List V} {us : List Value} (h : Cts t cs us) : Paired ClsV cs us := by
  induction h with
  | nil => exact .nil
  | cons h ih => exact .cons (.own _) ih
theorem wd_isxT {i : Nat} {a D : Addr} {t : TA} {cs : List V} {us : List Value} {b : Bool} (hi : ρ[i]? = some (some (.raw (.ref a)))) (ht : Cts t cs us) (hl : cs.length ≤ sizeLine) (C : ExcC K D) (e : PySem.W.kitAny K (.ref D) us = some b) (q : QD (.bool b) ρ) : WD B K (tCB (rIsXT K a (.ref D) none) (tCons (tVar i) (tCons (tTup t) tNil))) ρ QD := fun F H σ E QQ kk => by
  obtain ⟨v, hv, sv⟩ := E.sl i _ hi
  cases (show v = .ref a from sv)
  refine ⟨_, hv, ht.run σ H ⟨hl, fun p hp => ?_⟩⟩
  obtain ⟨E2, e2⟩ := E.alloc (o := .tup cs) hp
  exact ⟨D, p, cs, us, b, rfl, rfl, C, rfl, upd_same, ht.pair, e, kk _ _ _ _ ρ E2 e2 (.bl b) q⟩
end
end SV

set_option maxHeartbeats 1000000
namespace SV
open PySem PySem.Spec L2
open Evl (Ex)
/-! ### a call that only reads own lists: its answer holds no lists -/
def atomD : PyData → Bool
  | .none => true
  | .bool _ => true
  | .int _ => true
  | .str _ => true
  | _ => false
abbrev flatR : R → Prop
  | .d x => atomD x = true
  | .new xs => ∀ x, x ∈ xs → atomD x = true
  | .scr _ => False
  | .raw _ => False
  | .deep _ => False
  | .newD _ _ => False
def argR (ρ : En) : List Ar → Option (List L)
  | [] => some []
  | .d x :: r => (argR ρ r).map (.d x :: ·)
  | .scr ns :: r => (argR ρ r).map (.scr ns :: ·)
  | .raw v :: r => (argR ρ r).map (.raw v :: ·)
  | .own j :: r => match ρ[j]? with
    | some (some (.own xs)) => (argR ρ r).map (.d (.list xs) :: ·)
    | some (some (.deep t)) => if t.isD = true then (argR ρ r).map (.d t.data :: ·) else none
    | _ => none
def tCallR (sp : Sp) (E : XK) (t : TA) : TE := fun σ H Q => True ∧ tCall sp [] E t σ H Q
def tCallRS (sp : Sp) (E : St → XK) (t : TA) : TE := fun σ H Q => True ∧ tCallS sp E t σ H Q
theorem pe_ro {X : Cx} {e : Expr} {sp : Sp} {E : XK} {t : TA} (h : PE X e (tCall sp [] E t)) : PE X e (tCallR sp E t) := ⟨fun pins s σ H Q I hh => h.run pins s σ H Q I hh.2⟩
theorem pe_roS {X : Cx} {e : Expr} {sp : Sp} {E : St → XK} {t : TA} (h : PE X e (tCallS sp E t)) : PE X e (tCallRS sp E t) := ⟨fun pins s σ H Q I hh => h.run pins s σ H Q I hh.2⟩
theorem Rp.atom {K : Fr} {F F' : Hp} {v : V} {x : PyData} (h : Rp K F v x) (a : atomD x = true) : Rp K F' v x := by
  cases h with
  | int i => exact .int i
  | bl b => exact .bl b
  | str s => exact .str s
  | non => exact .non
  | _ => cases a
theorem RpA.atom {K : Fr} {F F' : Hp} : ∀ {vs : List V} {xs : List PyData}, RpA K F vs xs → (∀ x, x ∈ xs → atomD x = true) → RpA K F' vs xs
  | _, _, .nil, _ => .nil
  | _, _, .cons h t, a => .cons (h.atom (a _ List.mem_cons_self)) (t.atom fun x hx => a x (List.mem_cons_of_mem _ hx))
section
variable [Tbs]
variable {B : Bs} {K : Fr} {F H F' H' : Hp} {σ : L2.St} {ρ : En} {ta tr te : TA} {Q : R → En → Prop} {QD : PyData → En → Prop} {QA : List Ar → En → Prop} {Z : Zs}
theorem argsR_sl (E : EnvOk B K F H σ ρ) : ∀ {as : List Ar} {vs : List V} {ls : List L}, AOks K F σ vs as → argR ρ as = some ls → vs.length = ls.length ∧ ∀ (i : Nat) (l : L), ls[i]? = some l → (∃ v, vs[i]? = some v ∧ SlotOk K (ntb H) H v l) ∧ l.pl = true
  | [], _, _, .nil, e => by
    cases e
    exact ⟨rfl, fun i l h => by simp at h⟩
  | a :: as, _, ls, .cons (v := v) (vs := vs) ha hs, e => by
    have key : ∃ l ls', ls = l :: ls' ∧ argR ρ as = some ls' ∧ SlotOk K (ntb H) H v l ∧ l.pl = true := by
      cases a with
      | d x =>
        cases q : argR ρ as with
        | none => unfold argR at e; rw [q] at e; cases e
        | some ls' => unfold argR at e; rw [q] at e; cases e; exact ⟨_, ls', rfl, rfl, Rp.mono (ex_ntb E.fh E.st.tf) ha, rfl⟩
      | scr x =>
        cases q : argR ρ as with
        | none => unfold argR at e; rw [q] at e; cases e
        | some ls' => unfold argR at e; rw [q] at e; cases e; obtain ⟨a, e1, h⟩ := ha; exact ⟨_, ls', rfl, rfl, ⟨a, e1, (ex_ntb E.fh E.st.tf).sl h⟩, rfl⟩
      | raw x =>
        cases q : argR ρ as with
        | none => unfold argR at e; rw [q] at e; cases e
        | some ls' => unfold argR at e; rw [q] at e; cases e; exact ⟨_, ls', rfl, rfl, ha, rfl⟩
      | own j =>
        unfold argR at e
        split at e
        · rename_i xs hj
          cases q : argR ρ as with
          | none => rw [q] at e; cases e
          | some ls' =>
            rw [q] at e; cases e
            obtain ⟨b, cs, hb, f1, f2, f3⟩ := E.own_at hj
            rw [show σ[j]? = some (some v) from ha] at hb
            cases hb
            exact ⟨_, ls', rfl, rfl, .lst (ntb_at f2 (nt_lst _).1) (f3.mono (ex_ntb E.fh E.st.tf)), rfl⟩
        · rename_i t hj
          by_cases c : t.isD = true
          · simp only [c, if_true] at e
            cases q : argR ρ as with
            | none => rw [q] at e; cases e
            | some ls' =>
              rw [q] at e; cases e
              obtain ⟨w, hb, f1, _⟩ := E.sl j _ hj
              rw [show σ[j]? = some (some v) from ha] at hb
              cases hb
              exact ⟨_, ls', rfl, rfl, f1.rp (ex_ntb E.fh E.st.tf) c (fun a ha => by obtain ⟨_, o, ho⟩ := f1.live ha; rw [ho]; exact ntb_at ho (f1.nt ha o ho).1), rfl⟩
          · simp only [c] at e
            cases e
        · cases e
    obtain ⟨l, ls', rfl, e', sl, no⟩ := key
    obtain ⟨h1, h2⟩ := argsR_sl E hs e'
    refine ⟨congrArg (· + 1) h1, fun i l2 h => ?_⟩
    cases i with
    | zero =>
      have z := Option.some.inj h
      subst z
      exact ⟨⟨v, rfl, sl⟩, no⟩
    | succ i => exact h2 i l2 h
theorem EnvOk.over (E : EnvOk B K F H σ ρ) (st : St1 ⟨ntb H, ntb H, none⟩ F' H') : EnvOk B K F H' σ ρ :=
  E.step ⟨Ex.refl F, fun a o e => st.h0 a o (ex_ntb E.fh E.st.tf a o e) (fun _ z => nomatch z) (fun ps z => E.st.tf a ps (by rw [e, z])), fun a o e m => st.h0 a o (ntb_at e m) (fun _ z => nomatch z) m, fun a h _ => h, E.st.tf, st.tab⟩
theorem flat_ok (E : EnvOk B K F H σ ρ) (st : St1 ⟨ntb H, ntb H, none⟩ F' H') {v : V} {r : R} (rv : RetOk ⟨ntb H, ntb H, none⟩ K F' H' v r) (fl : flatR r) : ROk B K F H' σ ρ v r := by
  cases r with
  | d x => exact Rp.atom rv fl
  | new xs =>
    obtain ⟨a, ws, e, k1, k2, k3, k4⟩ := rv
    exact ⟨a, ws, e, (ex_ntb E.fh E.st.tf).free k4, k2, k3.atom fl, (E.fr2 a k4).1, (E.fr2 a k4).2⟩
  | scr ns => exact fl.elim
  | raw w => exact fl.elim
  | deep t => exact fl.elim
  | newD ks xs => exact fl.elim
theorem we_callR {G : GF} {E : XK} (h : WA B K ta ρ fun as ρ1 => ∃ ls Pe, argR ρ1 as = some ls ∧ G ls (fun r _ => flatR r ∧ Q r ρ1) Pe ∧ ∀ C, Pe C → EK B K E C) : WE B K (tCallR (SpG K none G) E ta) ρ Q := fun F H σ E0 QQ k => ⟨trivial, by
  refine h F H σ E0 _ fun vs as F1 H1 ρ1 E1 e1 av ⟨ls, Pe, ha, hG, hE⟩ => ?_
  · show SpG K none G (vs ++ []) H1 QQ E
    rw [List.append_nil]
    obtain ⟨hl, hs⟩ := argsR_sl E1 av ha
    exact ⟨ntb H1, ntb H1, ls, fun r _ => flatR r ∧ Q r ρ1, Pe, args_pl (ntb_ex H1) ⟨ntb_tf H1, E1.st.tab⟩ hl hs, hG, fun v r F' H' ys st rv _ q => k v r F1 H' ρ1 (E1.over st) e1 (flat_ok E1 st rv q.1) q.2, fun C F' H' ys st _ hC => hE C hC F1 H' σ ρ1 (E1.over st)⟩⟩
theorem we_callRS {G : GF} {W : WX} (h : WA B K ta ρ fun as ρ1 => ∃ ls Pe, argR ρ1 as = some ls ∧ G ls (fun r _ => flatR r ∧ Q r ρ1) Pe ∧ ∀ C, Pe C → EKr B K W C ρ1) : WE B K (tCallRS (SpG K none G) (L2.WE W) ta) ρ Q := fun F H σ E0 QQ k => ⟨trivial, by
  refine h F H σ E0 _ fun vs as F1 H1 ρ1 E1 e1 av ⟨ls, Pe, ha, hG, hE⟩ => ?_
  · show SpG K none G vs H1 QQ (L2.WE W σ)
    obtain ⟨hl, hs⟩ := argsR_sl E1 av ha
    exact ⟨ntb H1, ntb H1, ls, fun r _ => flatR r ∧ Q r ρ1, Pe, args_pl (ntb_ex H1) ⟨ntb_tf H1, E1.st.tab⟩ hl hs, hG, fun v r F' H' ys st rv _ q => k v r F1 H' ρ1 (E1.over st) e1 (flat_ok E1 st rv q.1) q.2, fun C F' H' ys st _ hC => hE C hC F1 H' σ (E1.over st)⟩⟩
/-! arguments that no callee changes -/
def WAf (B : Bs) (K : Fr) (ta : TA) (ρ : En) (Q : List Ar → En → Prop) : Prop := WA B K ta ρ Q
theorem waf_nil (q : QA [] ρ) : WAf B K tNil ρ QA := wa_nil q
theorem waf_d {te : TE} (h : WD B K te ρ fun x ρ1 => WAf B K tr ρ1 fun as ρ2 => QA (.d x :: as) ρ2) : WAf B K (tCons te tr) ρ QA := wa_d h
theorem waf_scr {i : Nat} {ns : List Int} (h : ρ[i]? = some (some (.scr ns))) (q : WAf B K tr ρ fun as ρ2 => QA (.scr ns :: as) ρ2) : WAf B K (tCons (tVar i) tr) ρ QA := wa_e (we_scr h ⟨_, rfl, q⟩)
theorem waf_raw {i : Nat} {v : V} (h : ρ[i]? = some (some (.raw v))) (q : WAf B K tr ρ fun as ρ2 => QA (.raw v :: as) ρ2) : WAf B K (tCons (tVar i) tr) ρ QA := wa_e (we_rawv h ⟨_, rfl, q⟩)
theorem we_callF {G : GF} {E : XK} (h : WAf B K ta ρ fun as ρ1 => ∃ ls Pe, argL as = some ls ∧ G ls (fun r _ => Q r ρ1) Pe ∧ ∀ C, Pe C → EK B K E C) : WE B K (tCall (SpG K none G) [] E ta) ρ Q := we_call h
theorem we_callFS {G : GF} {W : WX} (h : WAf B K ta ρ fun as ρ1 => ∃ ls Pe, argL as = some ls ∧ G ls (fun r _ => Q r ρ1) Pe ∧ ∀ C, Pe C → EKr B K W C ρ1) : WE B K (tCallS (SpG K none G) (L2.WE W) ta) ρ Q := we_callS h
theorem wd_pow {t1 t2 : TE} (h : WD B K t1 ρ fun x ρ1 => ∃ i, x = .int i ∧ WD B K t2 ρ1 fun y ρ2 => ∃ j, y = .int j ∧ CPow i j ∧ QD (.int (i ^ j.toNat)) ρ2) : WD B K (tOp (rI CPow fun i j => .int (i ^ j.toNat)) t1 t2) ρ QD := fun F H σ E QQ k =>
  h F H σ E _ fun v x F1 H1 ρ1 E1 e1 rv ⟨i, hx, q⟩ => q F1 H1 σ E1 _ fun u y F2 H2 ρ2 E2 e2 ru ⟨j, hy, hc, q2⟩ => by
    subst hx hy
    cases rv; cases ru
    exact ⟨i, j, rfl, rfl, hc, k _ _ F2 H2 ρ2 E2 (e1.trans e2) (.int _) q2⟩
end
/-! classes against classes -/
theorem kit_self {K : Fr} {t : Value} : PySem.W.kitOne K t t = some true := if_pos (beq_self_eq_true _)
theorem kit_ne {K : Fr} {t : Value} {C : Addr} {b : Bool} (hne : (t == Value.ref C) = false) (hd : PySem.W.hasDictIn K C = true) (ht : PySem.W.typeIn K (.ref C) = some (.type "type")) (h : PySem.W.subIn K t (.ref C) = some b) : PySem.W.kitOne K t (.ref C) = some b := by
  obtain ⟨cd, hc, _⟩ := PySem.W.any_some hd
  have e2 : ((PySem.W.clsIn K C).isSome && PySem.W.typeIn K (.ref C) == some (.type "type")) = true := by rw [hc, ht] <;> rfl
  show (if (t == Value.ref C) = true then some true else (if ((PySem.W.clsIn K C).isSome && PySem.W.typeIn K (.ref C) == some (.type "type")) = true then PySem.W.subIn K t (.ref C) else none)) = some b
  rw [hne, if_neg (by decide), if_pos e2]
  exact h
theorem kit_bt {K : Fr} {a : Addr} {n : String} {b : Bool} (hm : PySem.W.kitMeta n = true) (h : PySem.W.subIn K (.ref a) (.type n) = some b) : PySem.W.kitOne K (.ref a) (.type n) = some b := by
  show (if (Value.ref a == Value.type n) = true then some true else (if PySem.W.kitMeta n = true then PySem.W.subIn K (.ref a) (.type n) else none)) = some b
  rw [if_pos hm, show (Value.ref a == Value.type n) = false from rfl, if_neg (by decide)]
  exact h
end SV

set_option maxHeartbeats 1000000
namespace SV
open PySem PySem.Spec L2 PyProof.Rows
open Evl (Ex)
variable [Tbs]
/-! ### xs[a:b:c]: some items of a list, by a step -/
def tSl3 (K : Fr) (te : TE) (tl th ts : TO) : TE := fun σ H Q => te σ H fun x H1 => tl σ H1 fun _ H2 => th σ H2 fun _ H3 => ts σ H3 fun st H4 => st ≠ some 0 ∧ ∃ a xs, x = .ref a ∧ SqL K H4 a xs ∧ ∀ p ys, H4 p = none → (∀ y, y ∈ ys → y ∈ xs) → ys.length ≤ xs.length → Q (.ref p) (upd H4 p (.lst ys))
theorem vals_pick {xs : List V} {us : List Value} (r : Vals xs us) : ∀ l : List Nat, ∃ ys : List V, Vals ys (l.filterMap (us.toArray[·]?)) ∧ ∀ y, y ∈ ys → y ∈ xs
  | [] => ⟨[], .nil, fun _ h => nomatch h⟩
  | i :: l => by
    obtain ⟨ys, h1, h2⟩ := vals_pick r l
    cases e : xs[i]? with
    | none =>
      have e2 := r.none_of e
      refine ⟨ys, ?_, h2⟩
      rw [List.filterMap_cons, show us.toArray[i]? = none by simpa using e2]
      exact h1
    | some x =>
      obtain ⟨u, e2, ru⟩ := r.get e
      refine ⟨x :: ys, ?_, fun y hy => ?_⟩
      · rw [List.filterMap_cons, show us.toArray[i]? = some u by simpa using e2]
        exact .cons ru h1
      · rcases List.mem_cons.mp hy with h | h
        · rw [h]; exact List.mem_of_getElem? e
        · exact h2 y h
theorem k_slice3 {X : Cx} {e : Expr} {te : TE} {tl th ts : TO} {lo hi : Option Expr} {st : Expr} {p3 pos : Pos} (K : Fr) (hK : X.K = K) (he : PE X e te) (hl : PO X lo tl) (hu : PO X hi th) (hs : PO X (some st) ts) : PE X (.Subscript e (.Slice lo hi (some st) p3) pos) (tSl3 K te tl th ts) := by
  subst hK
  refine ⟨fun pins s σ H Q I h => ?_⟩
  refine Subscript_ (thn (he.run pins s σ H _ I h) fun v s1 ⟨x, H1, I1, r1, q1⟩ => ?_)
  refine wpAny_Slice (thn (hl.run pins s1 σ H1 _ I1 q1) fun vl s2 ⟨l, H2, I2, pl, q2⟩ => ?_)
  refine thn (hu.run pins s2 σ H2 _ I2 q2) fun vu s3 ⟨u, H3, I3, pu, q3⟩ => ?_
  refine thn (hs.run pins s3 σ H3 _ I3 q3) fun vs s4 ⟨o, H4, I4, ps, ne, a, xs, ex, hx, q⟩ => ?_
  subst ex
  cases r1
  have I5 : Inv X pins σ H4 { s4 with heap := s4.heap.push { cls := .type "slice", data := .fields #[vl, vu, vs] } } := I4.kept (t' := s4.toks) fun b ob q => Heap.get?_push_of_some _ q
  obtain ⟨its, r, ht, hz⟩ := I5.list hx
  have hlen := r.length
  show wpAny (model X.prog X.w) X.A (subscriptTail e (.Slice lo hi (some st) p3) (.ref a) (.ref s4.heap.objs.size)) (EP X pins σ Q) X.xe { s4 with heap := s4.heap.push { cls := .type "slice", data := .fields #[vl, vu, vs] } }
  refine tail_any (ops := [.ref a, .ref s4.heap.objs.size]) ht.isList.typeIs (PySem.slot_list_getitem.lookup) ?_ (by with_unfolding_all rfl)
  refine wpAny_getItem_list_slice ht.isList (Heap.IsSliceOf.new _ vl vu vs) pl pu ps ne ?_ (by rw [List.size_toArray]; omega)
  obtain ⟨ys, rp, hm⟩ := vals_pick r (sliceRange (sliceBounds l u o its.toArray.size).1 (sliceBounds l u o its.toArray.size).2.1 (sliceBounds l u o its.toArray.size).2.2)
  have hsz := slicePick_size_le its.toArray l u o
  unfold slicePick at hsz ⊢
  rw [List.size_toArray, ← rp.length, List.size_toArray, ← hlen] at hsz
  refine ⟨.ref _, _, I5.laid (t' := s4.toks) (o := .lst ys) (fun b ob q => Heap.get?_push_of_some _ q) (Nat.le_refl _) ?_, rfl, q _ ys (I5.hok.fresh (Nat.le_refl _)) hm hsz⟩
  exact ⟨Nat.le_trans hsz hz, _, 0, rp, Heap.get?_push_size _ rfl⟩
theorem ints_of {ns : List Int} : ∀ {ys : List V}, (∀ y, y ∈ ys → y ∈ ns.map V.int) → ∃ ms : List Int, ys = ms.map V.int
  | [], _ => ⟨[], rfl⟩
  | y :: ys, h => by
    obtain ⟨ms, e⟩ := ints_of (ys := ys) fun z hz => h z (List.mem_cons_of_mem _ hz)
    obtain ⟨n, _, en⟩ := List.mem_map.mp (h y List.mem_cons_self)
    exact ⟨n :: ms, by rw [e, ← en]; rfl⟩
section
variable {B : Bs} {K : Fr} {ρ : En} {Q : R → En → Prop}
theorem we_sl3S {j : Nat} {ns : List Int} {t1 t2 t3 : TO} (hj : ρ[j]? = some (some (.scr ns))) (h : WO B K t1 ρ fun _ ρ2 => WO B K t2 ρ2 fun _ ρ3 => WO B K t3 ρ3 fun st ρ4 => st ≠ some 0 ∧ ∀ ms : List Int, ms.length ≤ ns.length → Q (.new (ms.map .int)) ρ4) : WE B K (tSl3 K (tVar j) t1 t2 t3) ρ Q := fun F H σ E QQ k => by
  obtain ⟨v, e, a, hv, hs⟩ := E.sl j _ hj
  subst hv
  refine ⟨.ref a, e, h F H σ E _ fun lo F2 H2 ρ2 E2 e2 q2 => q2 F2 H2 σ E2 _ fun hi F3 H3 ρ3 E3 e3 q3 => q3 F3 H3 σ E3 _ fun st F4 H4 ρ4 E4 e4 ⟨ne, q4⟩ => ⟨ne, a, ns.map V.int, rfl, E4.fh.sl (((e2.trans e3).trans e4).sl hs), fun p ys hp hm hl => ?_⟩⟩
  obtain ⟨ms, rfl⟩ := ints_of hm
  rw [List.length_map, List.length_map] at hl
  obtain ⟨E5, r5⟩ := new_ok E4 hp (RpA.of_ints (K := K) (F := F4) ms)
  exact k _ _ F4 _ ρ4 E5 ((e2.trans e3).trans e4) r5 (q4 ms hl)
end
/-! ### text * int -/
def srepS (x : Str) (n : Int) : Str := if n < 1 then Str.empty else if (n == 1 || x.length == 0) = true then x else ⟨(List.replicate n.toNat x.cps).foldl (· ++ ·) #[]⟩
def rSrep : R2 := fun x y H Q => ∃ a n, x = .str a ∧ y = .int n ∧ -1000000 ≤ n ∧ n ≤ 1000000 ∧ a.length * n.toNat ≤ 1000000 ∧ Q (.str (srepS a n)) H
theorem foldl_size (x : Array Nat) : ∀ (k : Nat) (a : Array Nat), ((List.replicate k x).foldl (· ++ ·) a).size = a.size + x.size * k
  | 0, a => by simp
  | k + 1, a => by
    rw [List.replicate_succ, List.foldl_cons, foldl_size x k, Array.size_append, Nat.mul_succ]
    omega
theorem srepS_len (x : Str) (n : Int) : (srepS x n).length = x.length * n.toNat := by
  unfold srepS
  split
  · rename_i h
    rw [show n.toNat = 0 by omega, Nat.mul_zero]
    rfl
  · split
    · rename_i h
      rw [Bool.or_eq_true, beq_iff_eq, beq_iff_eq] at h
      rcases h with h | h
      · rw [h]; exact (Nat.mul_one _).symm
      · rw [h, Nat.zero_mul]
    · show Array.size _ = _
      rw [foldl_size]
      show 0 + x.length * n.toNat = _
      omega
theorem op_srep {X : Cx} : OpR X (binaryOp .Mult) rSrep := by
  intro pins s σ H x y v u Q I rx ry h
  obtain ⟨a, n, rfl, rfl, h1, h2, h3, q⟩ := h
  obtain ⟨t, rfl⟩ := rx
  obtain ⟨t', rfl⟩ := ry
  have hl := srepS_len a n
  refine P.mul_str (by rw [decide_eq_false (by omega), decide_eq_false (by omega)]; rfl) (fun k1 _ hc => ?_) (fun _ _ => ?_) ?_
  · have hn : 0 < n := by omega
    have e1 : (a.length : Int) ≤ 1000000 := by
      have : a.length * 1 ≤ a.length * n.toNat := Nat.mul_le_mul_left _ (by omega)
      omega
    have e2 : (1000000 : Int) ≤ (2 ^ 63 - 1) / n := by
      rw [Int.le_ediv_iff_mul_le hn]
      have : (1000000 : Int) * n ≤ 1000000 * 1000000 := Int.mul_le_mul_of_nonneg_left h2 (by omega)
      omega
    omega
  · unfold Builtin.Str.tooLong
    exact decide_eq_false (by have : (1000000 : Nat) ≤ sizeLine := by decide
                              omega)
  · unfold srepS at q
    split
    · rename_i k
      rw [if_pos k] at q
      exact ⟨by decide, .str _, H, I.tok _, ⟨_, rfl⟩, q⟩
    · rename_i k
      rw [if_neg k] at q
      split
      · rename_i k2
        rw [if_pos k2] at q
        exact ⟨.str _, H, I, ⟨_, rfl⟩, q⟩
      · rename_i k2
        rw [if_neg k2] at q
        refine ⟨?_, .str _, H, I.tok _, ⟨_, rfl⟩, q⟩
        have e := foldl_size a.cps n.toNat #[]
        have e2 : (1000000 : Nat) ≤ sizeLine := by decide
        show Array.size _ ≤ sizeLine
        rw [e]
        show 0 + a.length * n.toNat ≤ sizeLine
        omega
section
variable {B : Bs} {K : Fr} {ρ : En} {ta tb : TE} {QD : PyData → En → Prop}
theorem wd_srep (h : WD B K ta ρ fun x ρ1 => ∃ a, x = .str a ∧ WD B K tb ρ1 fun y ρ2 => ∃ n, y = .int n ∧ (-1000000 ≤ n ∧ n ≤ 1000000 ∧ a.length * n.toNat ≤ 1000000) ∧ QD (.str (srepS a n)) ρ2) : WD B K (tOp rSrep ta tb) ρ QD := fun F H σ E QQ k =>
  h F H σ E _ fun v x F1 H1 ρ1 E1 e1 rv ⟨a, hx, q⟩ => q F1 H1 σ E1 _ fun u y F2 H2 ρ2 E2 e2 ru ⟨n, hy, ⟨h1, h2, h3⟩, q2⟩ => by
    subst hx hy
    cases rv; cases ru
    exact ⟨a, n, rfl, rfl, h1, h2, h3, k _ _ F2 H2 ρ2 E2 (e1.trans e2) (.str _) q2⟩
theorem wd_dnew (q : QD (.dict []) ρ) : WD B K tDNewK ρ QD := fun F H σ E QQ k p hp => by
  obtain ⟨E2, e2⟩ := E.alloc (o := .dK []) hp
  exact k _ _ _ _ ρ E2 e2 (.dct upd_same) q
end
end SV

set_option maxHeartbeats 1000000
namespace SV
open PySem PySem.Spec L2
open Evl (Ex)
variable [Tbs]
/-! ### places within an own thing -/
def OT.kids : OT → List OT
  | .d _ => []
  | .lst _ ts => ts
  | .tup _ ts => ts
  | .dct _ _ ts => ts
def OT.setKids : OT → List OT → OT
  | .d x, _ => .d x
  | .lst a _, ts => .lst a ts
  | .tup a _, ts => .tup a ts
  | .dct a ks _, ts => .dct a ks ts
def OT.adr : OT → List Addr
  | .d _ => []
  | .lst a _ => [a]
  | .tup a _ => [a]
  | .dct a _ _ => [a]
def OT.at : List Nat → OT → Option OT
  | [], t => some t
  | i :: π, t => match t.kids[i]? with
    | some u => OT.at π u
    | none => none
def OT.put : List Nat → OT → OT → OT
  | [], _, n => n
  | i :: π, t, n => match t.kids[i]? with
    | some u => t.setKids (t.kids.set i (OT.put π u n))
    | none => t
/-- what reading a place gives: data, or where the thing stands -/
def OT.r : OT → R
  | .d x => .d x
  | .lst a _ => .raw (.ref a)
  | .tup a _ => .raw (.ref a)
  | .dct a _ _ => .raw (.ref a)
/-- what taking it out gives -/
def OT.rO : OT → R
  | .d x => .d x
  | .lst a ts => .deep (.lst a ts)
  | .tup a ts => .deep (.tup a ts)
  | .dct a ks ts => .deep (.dct a ks ts)
/-- a value as a part of an own thing -/
def Kid : R → (OT → Prop) → Prop
  | .d x, k => k (.d x)
  | .new xs, k => ∀ b, k (.lst b (xs.map .d))
  | .deep t, k => k t
  | .newD ks xs, k => ∀ b, k (.dct b ks (xs.map .d))
  | _, _ => False
section
variable {K : Fr} {F H H' : Hp}
theorem OT.fp_eq : ∀ t : OT, t.fp = t.adr ++ fps t.kids
  | .d _ => rfl
  | .lst _ _ => rfl
  | .tup _ _ => rfl
  | .dct _ _ _ => rfl
theorem fps_mid (pre post : List OT) (c : OT) : fps (pre ++ c :: post) = fps pre ++ (c.fp ++ fps post) := by rw [fps_app]; rfl
theorem kid_split {ts : List OT} {i : Nat} {c : OT} (h : ts[i]? = some c) : ∃ pre post, ts = pre ++ c :: post ∧ ∀ c', ts.set i c' = pre ++ c' :: post := by
  have e := split_at h
  have hl : (ts.take i).length = i := by
    rw [List.length_take]
    have := (List.getElem?_eq_some_iff.mp h).1
    omega
  refine ⟨ts.take i, ts.drop (i + 1), e, fun c' => ?_⟩
  have e2 : ts.set i c' = (ts.take i ++ c :: ts.drop (i + 1)).set (ts.take i).length c' := by rw [← e, hl]
  rw [e2, List.set_append_right _ _ (Nat.le_refl _), Nat.sub_self]
  rfl
theorem OtA.mid : ∀ {pre post : List OT} {c : OT} {vs : List V}, OtA K F H vs (pre ++ c :: post) → ∃ v1 w v2, vs = v1 ++ w :: v2 ∧ OtA K F H v1 pre ∧ Ot K F H w c ∧ OtA K F H v2 post
  | [], _, _, _, .cons h r => ⟨[], _, _, rfl, .nil, h, r⟩
  | _ :: _, _, _, _, .cons h r => by
    obtain ⟨v1, w, v2, rfl, h1, h2, h3⟩ := OtA.mid r
    exact ⟨_ :: v1, w, v2, rfl, .cons h h1, h2, h3⟩
theorem Ot.kid {v : V} {t u : OT} {i : Nat} (h : Ot K F H v t) (e : t.kids[i]? = some u) : (∃ w, Ot K F H w u) ∧ ∀ a, a ∈ u.fp → a ∈ fps t.kids := by
  refine ⟨?_, fun a ha => fp_sub (List.mem_of_getElem? e) ha⟩
  cases h with
  | d _ => cases e
  | lst _ _ h => obtain ⟨w, _, q⟩ := h.get' e; exact ⟨w, q⟩
  | tup _ _ h => obtain ⟨w, _, q⟩ := h.get' e; exact ⟨w, q⟩
  | dct _ _ _ h => obtain ⟨w, _, q⟩ := h.get' e; exact ⟨w, q⟩
theorem Ot.at : ∀ (π : List Nat) {t u : OT} {v : V}, Ot K F H v t → t.at π = some u → (∃ w, Ot K F H w u) ∧ ∀ a, a ∈ u.fp → a ∈ t.fp
  | [], t, u, v, h, e => by cases e; exact ⟨⟨v, h⟩, fun _ h => h⟩
  | i :: π, t, u, v, h, e => by
    unfold OT.at at e
    cases q : t.kids[i]? with
    | none => rw [q] at e; cases e
    | some c =>
      rw [q] at e
      obtain ⟨⟨w, hw⟩, hs⟩ := h.kid q
      obtain ⟨k1, k2⟩ := Ot.at π hw e
      exact ⟨k1, fun a ha => by rw [OT.fp_eq]; exact List.mem_append_right _ (hs a (k2 a ha))⟩
theorem nd_kid {t u : OT} {i : Nat} (nd : t.fp.Nodup) (e : t.kids[i]? = some u) : u.fp.Nodup := by
  rw [OT.fp_eq] at nd
  obtain ⟨pre, post, e1, _⟩ := kid_split e
  rw [e1, fps_mid] at nd
  exact (List.nodup_append.mp (List.nodup_append.mp (List.nodup_append.mp nd).2.1).2.1).1
theorem nd_at : ∀ (π : List Nat) {t u : OT}, t.fp.Nodup → t.at π = some u → u.fp.Nodup
  | [], t, u, nd, e => by cases e; exact nd
  | i :: π, t, u, nd, e => by
    unfold OT.at at e
    cases q : t.kids[i]? with
    | none => rw [q] at e; cases e
    | some c => rw [q] at e; exact nd_at π (nd_kid nd q) e
theorem ot_put {u u' : OT} : ∀ (π : List Nat) {t : OT} {v : V}, Ot K F H v t → t.fp.Nodup → t.at π = some u → (∀ w, Ot K F H w u → Ot K F H' w u') → (∀ b, b ∈ t.fp → b ∉ u.fp → H' b = H b) → Ot K F H' v (t.put π u')
  | [], t, v, h, nd, e, hu, hk => by cases e; exact hu v h
  | i :: π, t, v, h, nd, e, hu, hk => by
    unfold OT.at at e
    unfold OT.put
    cases q : t.kids[i]? with
    | none => rw [q] at e; cases e
    | some c =>
      rw [q] at e
      have ndc := nd_kid nd q
      have hsub : ∀ b, b ∈ u.fp → b ∈ c.fp := by
        obtain ⟨⟨w, hw⟩, _⟩ := h.kid q
        exact (Ot.at π hw e).2
      obtain ⟨pre, post, e1, e2⟩ := kid_split q
      have nd' := nd
      rw [OT.fp_eq, e1, fps_mid] at nd'
      obtain ⟨_, n2, n3⟩ := List.nodup_append.mp nd'
      obtain ⟨_, n5, n6⟩ := List.nodup_append.mp n2
      obtain ⟨_, _, n9⟩ := List.nodup_append.mp n5
      have key : ∀ {vs : List V}, OtA K F H vs t.kids → OtA K F H' vs (t.kids.set i (OT.put π c u')) := fun {vs} ha => by
        show OtA K F H' vs (t.kids.set i (OT.put π c u'))
        rw [e2]
        rw [e1] at ha
        obtain ⟨v1, w, v2, rfl, h1, h2, h3⟩ := ha.mid
        have hin : ∀ b, b ∈ fps (pre ++ c :: post) → b ∈ t.fp := fun b hb => by rw [OT.fp_eq, e1]; exact List.mem_append_right _ hb
        refine (h1.mono (Ex.refl F) fun b hb => ⟨(h1.live hb).1, hk b (hin b (by rw [fps_mid]; exact List.mem_append_left _ hb)) fun z => n6 b hb b (List.mem_append_left _ (hsub b z)) rfl⟩).append (.cons ?_ (h3.mono (Ex.refl F) fun b hb => ⟨(h3.live hb).1, hk b (hin b (by rw [fps_mid]; exact List.mem_append_right _ (List.mem_append_right _ hb))) fun z => n9 b (hsub b z) b hb rfl⟩))
        exact ot_put π h2 ndc e hu fun b hb => hk b (hin b (by rw [fps_mid]; exact List.mem_append_right _ (List.mem_append_left _ hb)))
      have top : ∀ a, a ∈ t.adr → H' a = H a := fun a ha => hk a (by rw [OT.fp_eq]; exact List.mem_append_left _ ha) fun z => n3 a ha a (List.mem_append_right _ (List.mem_append_left _ (hsub a z))) rfl
      cases h with
      | d _ => cases q
      | lst h1 h2 h3 => exact .lst h1 ((top _ (List.mem_singleton.mpr rfl)).trans h2) (key h3)
      | tup h1 h2 h3 => exact .tup h1 ((top _ (List.mem_singleton.mpr rfl)).trans h2) (key h3)
      | dct h1 h2 hl h3 => exact .dct h1 ((top _ (List.mem_singleton.mpr rfl)).trans h2) (by rw [hl]; exact (List.length_set ..).symm) (key h3)
theorem fp_put {u u' : OT} : ∀ (π : List Nat) {t : OT}, t.fp.Nodup → t.at π = some u → u'.fp.Nodup → (∀ b, b ∈ u'.fp → b ∈ u.fp ∨ b ∉ t.fp) → (t.put π u').fp.Nodup ∧ ∀ b, b ∈ (t.put π u').fp → (b ∈ t.fp ∧ b ∉ u.fp) ∨ b ∈ u'.fp
  | [], t, nd, e, nu, hb => ⟨nu, fun b h => .inr h⟩
  | i :: π, t, nd, e, nu, hb => by
    unfold OT.at at e
    unfold OT.put
    cases q : t.kids[i]? with
    | none => rw [q] at e; cases e
    | some c =>
      rw [q] at e
      have ndc := nd_kid nd q
      obtain ⟨pre, post, e1, e2⟩ := kid_split q
      have nd' := nd
      rw [OT.fp_eq, e1, fps_mid] at nd'
      have hin : ∀ b, b ∈ t.fp ↔ b ∈ t.adr ∨ b ∈ fps pre ∨ b ∈ c.fp ∨ b ∈ fps post := fun b => by
        rw [OT.fp_eq, e1, fps_mid]
        simp only [List.mem_append]
      have hsub : ∀ {π : List Nat} {c u : OT}, c.at π = some u → ∀ b, b ∈ u.fp → b ∈ c.fp := by
        intro π
        induction π with
        | nil => intro c u e b h; cases e; exact h
        | cons j π ih =>
          intro c u e b h
          unfold OT.at at e
          cases q : c.kids[j]? with
          | none => rw [q] at e; cases e
          | some d =>
            rw [q] at e
            rw [OT.fp_eq]
            exact List.mem_append_right _ (fp_sub (List.mem_of_getElem? q) (ih e b h))
      have su := hsub e
      obtain ⟨k1, k2⟩ := fp_put π ndc e nu fun b h => (hb b h).elim .inl fun n => .inr fun z => n ((hin b).mpr (.inr (.inr (.inl z))))
      obtain ⟨n1, n2, n3⟩ := List.nodup_append.mp nd'
      obtain ⟨n4, n5, n6⟩ := List.nodup_append.mp n2
      obtain ⟨n7, n8, n9⟩ := List.nodup_append.mp n5
      have out : ∀ b, b ∈ (OT.put π c u').fp → b ∈ c.fp ∨ b ∉ t.fp := fun b h => (k2 b h).elim (fun z => .inl z.1) fun z => (hb b z).elim (fun y => .inl (su b y)) .inr
      have e3 : (t.setKids (t.kids.set i (OT.put π c u'))).fp = t.adr ++ (fps pre ++ ((OT.put π c u').fp ++ fps post)) := by
        rw [e2]
        cases t with
        | d _ => cases q
        | _ => exact congrArg (_ :: ·) (fps_mid _ _ _)
      show (t.setKids (t.kids.set i (OT.put π c u'))).fp.Nodup ∧ ∀ b, b ∈ (t.setKids (t.kids.set i (OT.put π c u'))).fp → _
      rw [e3]
      have inT1 : ∀ b, b ∈ t.adr → b ∈ t.fp := fun b h => (hin b).mpr (.inl h)
      have inT2 : ∀ b, b ∈ fps pre → b ∈ t.fp := fun b h => (hin b).mpr (.inr (.inl h))
      have inT3 : ∀ b, b ∈ fps post → b ∈ t.fp := fun b h => (hin b).mpr (.inr (.inr (.inr h)))
      refine ⟨List.nodup_append.mpr ⟨n1, List.nodup_append.mpr ⟨n4, List.nodup_append.mpr ⟨k1, n8, fun a ha b hb' z => ?_⟩, fun a ha b hb' z => ?_⟩, fun a ha b hb' z => ?_⟩, fun b h => ?_⟩
      · subst z
        rcases out a ha with k | k
        · exact n9 a k a hb' rfl
        · exact k (inT3 a hb')
      · subst z
        rcases List.mem_append.mp hb' with h | h
        · rcases out a h with k | k
          · exact n6 a ha a (List.mem_append_left _ k) rfl
          · exact k (inT2 a ha)
        · exact n6 a ha a (List.mem_append_right _ h) rfl
      · subst z
        rcases List.mem_append.mp hb' with h | h
        · exact n3 a ha a (List.mem_append_left _ h) rfl
        · rcases List.mem_append.mp h with h | h
          · rcases out a h with k | k
            · exact n3 a ha a (List.mem_append_right _ (List.mem_append_left _ k)) rfl
            · exact k (inT1 a ha)
          · exact n3 a ha a (List.mem_append_right _ (List.mem_append_right _ h)) rfl
      · rcases List.mem_append.mp h with h | h
        · exact .inl ⟨inT1 b h, fun z => n3 b h b (List.mem_append_right _ (List.mem_append_left _ (su b z))) rfl⟩
        · rcases List.mem_append.mp h with h | h
          · exact .inl ⟨inT2 b h, fun z => n6 b h b (List.mem_append_left _ (su b z)) rfl⟩
          · rcases List.mem_append.mp h with h | h
            · rcases k2 b h with ⟨k, k'⟩ | k
              · exact .inl ⟨(hin b).mpr (.inr (.inr (.inl k))), k'⟩
              · exact .inr k
            · exact .inl ⟨inT3 b h, fun z => n9 b (su b z) b h rfl⟩
theorem fps_set_sub : ∀ {ts : List OT} {n : Nat} {x : PyData} {b : Addr}, b ∈ fps (ts.set n (.d x)) → b ∈ fps ts
  | [], _, _, _, h => h
  | t :: ts, 0, _, _, h => List.mem_append_right _ h
  | t :: ts, n + 1, _, _, h => (List.mem_append.mp (show _ ∈ t.fp ++ fps (ts.set n _) from h)).elim (List.mem_append_left _) fun k => List.mem_append_right _ (fps_set_sub k)
theorem fps_set_nd : ∀ {ts : List OT} {n : Nat} {x : PyData}, (fps ts).Nodup → (fps (ts.set n (.d x))).Nodup
  | [], _, _, h => h
  | t :: ts, 0, _, h => (List.nodup_append.mp h).2.1
  | t :: ts, n + 1, _, h => by
    obtain ⟨h1, h2, h3⟩ := List.nodup_append.mp h
    exact List.nodup_append.mpr ⟨h1, fps_set_nd h2, fun a ha b hb => h3 a ha b (fps_set_sub hb)⟩
end
section
variable {B : Bs} {K : Fr} {F H : Hp} {σ : L2.St} {ρ : En} {te to ti : TE} {tr tl : TA} {Q : R → En → Prop} {QD : PyData → En → Prop} {Z : Zs}
/-- where a list within an own thing stands -/
theorem EnvOk.list_at (E : EnvOk B K F H σ ρ) {i : Nat} {t : OT} {π : List Nat} {a : Addr} {ts : List OT} (h : ρ[i]? = some (some (.deep t))) (hat : t.at π = some (.lst a ts)) :
    SFp σ ρ i a ∧ ∃ vs, H a = some (.lst vs) ∧ OtA K F H vs ts := by
  obtain ⟨v, e, s, nd⟩ := E.sl i _ h
  obtain ⟨⟨w, hw⟩, hs⟩ := Ot.at π s hat
  cases hw with
  | lst h1 h2 h3 => exact ⟨⟨_, v, h, e, hs a List.mem_cons_self⟩, _, h2, h3⟩
/-- a list within an own thing is written -/
theorem EnvOk.writeT (E : EnvOk B K F H σ ρ) {i : Nat} {t : OT} {π : List Nat} {a : Addr} {ts ts' : List OT} {ws : List V} (h : ρ[i]? = some (some (.deep t))) (np : NP B i) (hat : t.at π = some (.lst a ts))
    (hw : OtA K F H ws ts') (nd' : (fps ts').Nodup) (hf : ∀ b, b ∈ fps ts' → b ∈ fps ts ∨ (B.H0 b = none ∧ ∀ j, ¬ SFp σ ρ j b)) :
    EnvOk B K F (upd H a (.lst ws)) σ (ρ.set i (some (.deep (t.put π (.lst a ts'))))) := by
  obtain ⟨fa, vs, k2, k3⟩ := E.list_at h hat
  obtain ⟨v, e, s, nd⟩ := E.sl i _ h
  have ndu := nd_at π nd hat
  have ha : a ∉ fps ts' := fun z => by
    rcases hf a z with k | k
    · exact (List.nodup_cons.mp (show (a :: fps ts).Nodup from ndu)).1 k
    · exact k.2 i fa
  have hs := (Ot.at π s hat).2
  have fr : ∀ b, (B.H0 b = none ∧ ∀ j, ¬ SFp σ ρ j b) → b ∉ t.fp := fun b k z => k.2 i ⟨_, v, h, e, z⟩
  obtain ⟨p1, p2⟩ := fp_put (u' := .lst a ts') π nd hat (List.nodup_cons.mpr ⟨ha, nd'⟩) fun b hb => (List.mem_cons.mp hb).elim (fun z => .inl (by subst z; exact List.mem_cons_self)) fun z => (hf b z).elim (fun y => .inl (List.mem_cons_of_mem _ y)) fun y => .inr (fr b y)
  have s' : Ot K F (upd H a (.lst ws)) v (t.put π (.lst a ts')) := by
    refine ot_put π s nd hat (fun w hwu => ?_) fun b hb hn => upd_ne fun z => hn (by subst z; exact List.mem_cons_self)
    cases hwu with
    | lst h1 h2 h3 => exact .lst h1 upd_same (hw.mono (Ex.refl F) fun b hb => ⟨(hw.live hb).1, upd_ne fun z => ha (by rw [← z]; exact hb)⟩)
  refine E.put h e (E.st_write fa) ⟨s', p1⟩ (fun j b n hb => upd_ne fun z => n (E.sep j i b hb (by subst z; exact fa))) (fun b hb => ?_) (.inr (.inr np))
  rcases p2 b hb with ⟨k, _⟩ | k
  · exact .inl k
  · rcases List.mem_cons.mp k with z | k
    · subst z; exact .inl (hs b List.mem_cons_self)
    · rcases hf b k with k | k
      · exact .inl (hs b (List.mem_cons_of_mem _ k))
      · exact .inr k
/-- a value as a part -/
theorem kid_ok {v : V} {r : R} {k : OT → Prop} (rv : ROk B K F H σ ρ v r) (h : Kid r k) : ∃ u, Ot K F H v u ∧ u.fp.Nodup ∧ Free B σ ρ u.fp ∧ k u := by
  cases r with
  | d x => exact ⟨.d x, .d rv, List.nodup_nil, (fun a h => nomatch h), h⟩
  | new xs =>
    obtain ⟨a, vs, rfl, k1, k2, k3, k4, k5⟩ := rv
    have e : (OT.lst a (xs.map .d)).fp = [a] := congrArg (a :: ·) (fps_map_d xs)
    exact ⟨.lst a (xs.map .d), .lst k1 k2 (.of_rp k3), by rw [e]; simp, by rw [e]; intro b hb; rw [List.mem_singleton.mp hb]; exact ⟨k4, k5⟩, h a⟩
  | scr ns => exact h.elim
  | raw w => exact h.elim
  | deep t => exact ⟨t, rv.1, rv.2.1, rv.2.2, h⟩
  | newD ks xs =>
    obtain ⟨a, vs, rfl, k1, k2, hl, k3, k4, k5⟩ := rv
    have e : (OT.dct a ks (xs.map .d)).fp = [a] := congrArg (a :: ·) (fps_map_d xs)
    exact ⟨.dct a ks (xs.map .d), .dct k1 k2 (by rw [List.length_map]; exact hl) (.of_rp k3), by rw [e]; simp, by rw [e]; intro b hb; rw [List.mem_singleton.mp hb]; exact ⟨k4, k5⟩, h a⟩
/-! ### rules -/
/-- an own list, by its place -/
theorem ws_deep {t : TS} {j : Nat} {xs : List PyData} (hj : ρ[j]? = some (some (.own xs))) (np : NP B j) (h : ∀ a, WS B K t (ρ.set j (some (.deep (.lst a (xs.map .d))))) Z) : WS B K t ρ Z := fun F H σ E D ok => by
  obtain ⟨a, vs, e, k1, k2, k3⟩ := E.own_at hj
  refine h a F H σ (E.put hj e E.st ⟨.lst k1 k2 (.of_rp k3), ?_⟩ (fun _ _ _ _ => rfl) (fun b hb => .inl ?_) (.inr (.inr np))) D ok
  · show (a :: fps (xs.map .d)).Nodup
    rw [fps_map_d]; simp
  · have : b ∈ a :: fps (xs.map .d) := hb
    rw [fps_map_d] at this
    rw [List.mem_singleton.mp this]
    rfl
theorem ws_flat {t : TS} {j : Nat} {a : Addr} {xs : List PyData} (hj : ρ[j]? = some (some (.deep (.lst a (xs.map .d))))) (np : NP B j) (h : WS B K t (ρ.set j (some (.own xs))) Z) : WS B K t ρ Z := fun F H σ E D ok => by
  obtain ⟨v, e, s, nd⟩ := E.sl j _ hj
  cases s with
  | lst k1 k2 k3 => exact h F H σ (E.put hj e E.st ⟨a, _, rfl, k1, k2, k3.to_rp⟩ (fun _ _ _ _ => rfl) (fun b hb => .inl (by cases (show V.ref a = V.ref b from hb); exact List.mem_cons_self)) (.inr (.inr np))) D ok
/-- a slot's own thing, read -/
theorem we_ptr {j : Nat} {t : OT} (hj : ρ[j]? = some (some (.deep t))) (q : Q t.r ρ) : WE B K (tVar j) ρ Q := fun F H σ E QQ k => by
  obtain ⟨v, e, s, nd⟩ := E.sl j _ hj
  refine ⟨v, e, k v t.r F H ρ E (Ex.refl F) ?_ q⟩
  cases s with
  | d h => exact h
  | lst _ _ _ => exact rfl
  | tup _ _ _ => exact rfl
  | dct _ _ _ _ => exact rfl
theorem OtA.atI {vs : List V} {ts : List OT} {i : Int} {u : OT} (r : OtA K F H vs ts) (h : atI ts i = some u) : ∃ v, L2.atI vs i = some v ∧ Ot K F H v u := by
  unfold L2.atI at h ⊢
  rw [r.length]
  cases e : ixN ts.length i with
  | none => rw [e] at h; cases h
  | some j =>
    rw [e] at h
    exact r.get' (i := j) h
/-- p[i], p a place -/
theorem we_ixP (h : WE B K to ρ fun r ρ1 => ∃ a, r = .raw (.ref a) ∧ WD B K ti ρ1 fun y ρ2 => ∃ (j : Nat) (t : OT) (π : List Nat) (ts : List OT) (i : Int) (u : OT), y = .int i ∧ ρ2[j]? = some (some (.deep t)) ∧ (t.at π = some (.lst a ts) ∨ t.at π = some (.tup a ts)) ∧ atI ts i = some u ∧ Q u.r ρ2) : WE B K (tOp (rIx K) to ti) ρ Q := fun F H σ E QQ k =>
  h F H σ E _ fun v r F1 H1 ρ1 E1 e1 rv ⟨a, hr, q⟩ => by
    subst hr
    cases (show v = .ref a from rv)
    refine q F1 H1 σ E1 _ fun w y F2 H2 ρ2 E2 e2 ry ⟨j, t, π, ts, i, u, hy, hj, hat, hu, q2⟩ => ?_
    subst hy
    cases ry
    obtain ⟨v, e, s, nd⟩ := E2.sl j _ hj
    have fin : ∀ {vs : List V}, OtA K F2 H2 vs ts → ∃ w, atI vs i = some w ∧ QQ w H2 := fun {vs} hs => by
      obtain ⟨w, hw, ow⟩ := hs.atI hu
      refine ⟨w, hw, k w u.r F2 H2 ρ2 E2 (e1.trans e2) ?_ q2⟩
      cases ow with
      | d h => exact h
      | lst _ _ _ => exact rfl
      | tup _ _ _ => exact rfl
      | dct _ _ _ _ => exact rfl
    rcases hat with hat | hat
    · obtain ⟨⟨w, hw⟩, _⟩ := Ot.at π s hat
      cases hw with
      | lst h1 h2 h3 =>
        obtain ⟨w, hw, q3⟩ := fin h3
        exact .inl ⟨a, _, i, w, rfl, rfl, .inl (.inl h2), hw, q3⟩
    · obtain ⟨⟨w, hw⟩, _⟩ := Ot.at π s hat
      cases hw with
      | tup h1 h2 h3 =>
        obtain ⟨w, hw, q3⟩ := fin h3
        exact .inr (.inl ⟨a, _, i, w, rfl, rfl, .inl (.inl h2), hw, q3⟩)
/-- p.append(e), p a place -/
theorem we_appendP (h : WE B K to ρ fun r ρ1 => ∃ a, r = .raw (.ref a) ∧ (∃ (j : Nat) (t : OT) (π : List Nat) (ts : List OT), ρ1[j]? = some (some (.deep t)) ∧ t.at π = some (.lst a ts)) ∧ WE B K te ρ1 fun r2 ρ2 => ∃ (j : Nat) (t : OT) (π : List Nat) (ts : List OT), NP B j ∧ ρ2[j]? = some (some (.deep t)) ∧ t.at π = some (.lst a ts) ∧ ts.length < lim ∧
      Kid r2 fun u => Q (.d .none) (ρ2.set j (some (.deep (t.put π (.lst a (ts ++ [u]))))))) : WE B K (tBM K "list" rAppend to (tCons te tNil)) ρ Q := fun F H σ E QQ k =>
  h F H σ E _ fun v r F1 H1 ρ1 E1 e1 rv ⟨a, hr, ⟨j0, t0, π0, ts0, hj0, hat0⟩, q⟩ => by
    subst hr
    cases (show v = .ref a from rv)
    obtain ⟨_, vs0, hv0, _⟩ := E1.list_at hj0 hat0
    refine ⟨.inl ⟨rfl, vs0, .inl (.inl hv0)⟩, q F1 H1 σ E1 _ fun w r2 F2 H2 ρ2 E2 e2 rw' ⟨j, t, π, ts, np, hj, hat, hz, kd⟩ => ?_⟩
    obtain ⟨u, ou, ndu, fu, q2⟩ := kid_ok rw' kd
    obtain ⟨fa, vs, hv, os⟩ := E2.list_at hj hat
    obtain ⟨v, e, s, nd⟩ := E2.sl j _ hj
    have ndl : (a :: fps ts).Nodup := nd_at π nd hat
    have hs := (Ot.at π s hat).2
    have E3 := E2.writeT hj np hat (ts' := ts ++ [u]) (os.append (.cons ou .nil)) (by
        rw [fps_app]
        refine List.nodup_append.mpr ⟨(List.nodup_cons.mp ndl).2, ?_, fun b hb c hc z => ?_⟩
        · show (u.fp ++ []).Nodup
          rw [List.append_nil]; exact ndu
        · subst z
          have hc' : b ∈ u.fp ++ [] := hc
          rw [List.append_nil] at hc'
          exact (fu b hc').2 j ⟨_, v, hj, e, hs b (List.mem_cons_of_mem _ hb)⟩) fun b hb => by
        rw [fps_app] at hb
        rcases List.mem_append.mp hb with h | h
        · exact .inl h
        · have h' : b ∈ u.fp ++ [] := h
          rw [List.append_nil] at h'
          exact .inr (fu b h')
    exact ⟨a, vs, w, rfl, rfl, hv, by rw [os.length]; exact lim_lt hz, k _ (.d .none) F2 _ _ E3 (e1.trans e2) Rp.non q2⟩
/-- p.pop(), p a place -/
theorem we_popP (h : WE B K to ρ fun r ρ1 => ∃ a, r = .raw (.ref a) ∧ ∃ (j : Nat) (t : OT) (π : List Nat) (ts : List OT) (u : OT), NP B j ∧ ρ1[j]? = some (some (.deep t)) ∧ t.at π = some (.lst a ts) ∧ ts[ts.length - 1]? = some u ∧ Q u.rO (ρ1.set j (some (.deep (t.put π (.lst a ts.dropLast)))))) : WE B K (tBM0 K "list" rPop to) ρ Q := fun F H σ E QQ k =>
  h F H σ E _ fun v r F1 H1 ρ1 E1 e1 rv ⟨a, hr, j, t, π, ts, u, np, hj, hat, hu, q⟩ => by
    subst hr
    cases (show v = .ref a from rv)
    obtain ⟨fa, vs, hv, os⟩ := E1.list_at hj hat
    obtain ⟨v, e, s, nd⟩ := E1.sl j _ hj
    have ndl : (a :: fps ts).Nodup := nd_at π nd hat
    have hs := (Ot.at π s hat).2
    have sp : ts = ts.dropLast ++ [u] := by
      have hne : ts ≠ [] := fun z => by rw [z] at hu; cases hu
      have e2 := List.dropLast_concat_getLast hne
      rw [List.getLast_eq_getElem] at e2
      rw [List.getElem?_eq_getElem (by have := List.length_pos_iff.mpr hne; omega)] at hu
      rw [Option.some.inj hu] at e2
      exact e2.symm
    have e3 : fps ts = fps ts.dropLast ++ u.fp := by
      have e4 := congrArg fps sp
      rw [fps_app] at e4
      rw [e4]
      show fps ts.dropLast ++ (u.fp ++ []) = _
      rw [List.append_nil]
    have ndl' := ndl
    rw [e3] at ndl'
    obtain ⟨na, nf⟩ := List.nodup_cons.mp ndl'
    obtain ⟨n1, n2, n3⟩ := List.nodup_append.mp nf
    have E3 := E1.writeT hj np hat (ts' := ts.dropLast) os.dropLast n1 fun b hb => .inl (by rw [e3]; exact List.mem_append_left _ hb)
    obtain ⟨w, hw, ow⟩ := os.get' hu
    rw [← os.length] at hw
    refine ⟨.inl ⟨rfl, vs, .inl (.inl hv)⟩, a, vs, w, rfl, rfl, hv, hw, k w u.rO F1 _ _ E3 e1 ?_ q⟩
    have inu : ∀ b, b ∈ u.fp → b ∈ t.fp := fun b hb => hs b (List.mem_cons_of_mem _ (by rw [e3]; exact List.mem_append_right _ hb))
    have p2 := (fp_put (u' := .lst a ts.dropLast) π nd hat (List.nodup_cons.mpr ⟨fun z => na (List.mem_append_left _ z), n1⟩) fun b hb => (List.mem_cons.mp hb).elim (fun z => .inl (by subst z; exact List.mem_cons_self)) fun z => .inl (List.mem_cons_of_mem _ (by rw [e3]; exact List.mem_append_left _ z))).2
    have fr : Free B σ (ρ1.set j (some (.deep (t.put π (.lst a ts.dropLast))))) u.fp := fun b hb => by
      refine ⟨(E1.mine j b ⟨_, v, hj, e, inu b hb⟩).elim id fun z => absurd z (np b), fun i ⟨m, w, q1, q2, q3⟩ => ?_⟩
      rcases set_cases q1 with ⟨rfl, _, e5⟩ | ⟨n, e5⟩
      · cases e5
        rcases p2 b q3 with ⟨_, k2⟩ | k2
        · exact k2 (List.mem_cons_of_mem _ (by rw [e3]; exact List.mem_append_right _ hb))
        · rcases List.mem_cons.mp k2 with z | z
          · subst z; exact na (List.mem_append_right _ hb)
          · exact n3 b z b hb rfl
      · exact n (E1.sep i j b ⟨m, w, e5, q2, q3⟩ ⟨_, v, hj, e, inu b hb⟩)
    have ow' : Ot K F1 (upd H1 a (.lst vs.dropLast)) w u := ow.mono (Ex.refl F1) fun b hb => ⟨(ow.live hb).1, upd_ne fun z => by subst z; exact na (List.mem_append_right _ hb)⟩
    cases u with
    | d x => cases ow' with | d h => exact h
    | lst b us => exact ⟨ow', n2, fr⟩
    | tup b us => exact ⟨ow', n2, fr⟩
    | dct b ks us => exact ⟨ow', n2, fr⟩
/-- p[i] = e, p a place -/
theorem ws_setItemP (h : WD B K te ρ fun x ρ1 => WE B K to ρ1 fun r ρ2 => ∃ a, r = .raw (.ref a) ∧ WD B K ti ρ2 fun y ρ3 => ∃ (j : Nat) (t : OT) (π : List Nat) (ts : List OT) (i : Int) (n : Nat), NP B j ∧ ρ3[j]? = some (some (.deep t)) ∧ t.at π = some (.lst a ts) ∧ y = .int i ∧ ixN ts.length i = some n ∧
      Z.nx (ρ3.set j (some (.deep (t.put π (.lst a (ts.set n (.d x)))))))) : WS B K (tAsg te (gSub to ti rSetL)) ρ Z := fun F H σ E D ok =>
  h F H σ E _ fun x0 x F1 H1 ρ1 E1 e1 rx q1 => q1 F1 H1 σ E1 _ fun v r F2 H2 ρ2 E2 e2 rv ⟨a, hr, q2⟩ => by
    subst hr
    cases (show v = .ref a from rv)
    refine q2 F2 H2 σ E2 _ fun w y F3 H3 ρ3 E3 e3 ry ⟨j, t, π, ts, i, n, np, hj, hat, hy, hn, q3⟩ => ?_
    subst hy
    cases ry
    obtain ⟨fa, vs, hv, os⟩ := E3.list_at hj hat
    obtain ⟨v, e, s, nd⟩ := E3.sl j _ hj
    have ndl : (a :: fps ts).Nodup := nd_at π nd hat
    have E4 := E3.writeT hj np hat (ts' := ts.set n (.d x)) (os.set n (.d (Rp.mono (e2.trans e3) rx))) (fps_set_nd (List.nodup_cons.mp ndl).2) fun b hb => .inl (fps_set_sub hb)
    exact ⟨a, vs, i, n, rfl, rfl, hv, by rw [os.length]; exact hn, ok.nx F3 _ _ _ E4 ((e1.trans e2).trans e3) q3⟩
/-- len of a place -/
theorem wd_lenP (h : WE B K to ρ fun r ρ1 => ∃ a, r = .raw (.ref a) ∧ ∃ (j : Nat) (t : OT) (π : List Nat) (ts : List OT), ρ1[j]? = some (some (.deep t)) ∧ t.at π = some (.lst a ts) ∧ QD (.int ts.length) ρ1) : WD B K (tCB (rLen K) (tCons to tNil)) ρ QD := fun F H σ E QQ k =>
  h F H σ E _ fun v r F1 H1 ρ1 E1 e1 rv ⟨a, hr, j, t, π, ts, hj, hat, q⟩ => by
    subst hr
    cases (show v = .ref a from rv)
    obtain ⟨fa, vs, hv, os⟩ := E1.list_at hj hat
    exact ⟨.ref a, vs.length, rfl, .inl ⟨vs, .inl (.inl hv), rfl⟩, k _ _ F1 H1 ρ1 E1 e1 (by rw [os.length]; exact .int _) q⟩
theorem wd_lenT {j : Nat} {a : Addr} {ts : List OT} (hj : ρ[j]? = some (some (.deep (.lst a ts)))) (q : QD (.int ts.length) ρ) : WD B K (tCB (rLen K) (tCons (tVar j) tNil)) ρ QD :=
  wd_lenP (we_ptr hj ⟨a, rfl, j, _, [], ts, hj, rfl, q⟩)
/-- == and != of an own thing -/
theorem deep_dp {F H : Hp} {σ : L2.St} (E : EnvOk B K F H σ ρ) {i : Nat} {t : OT} (h : ρ[i]? = some (some (.deep t))) (hd : t.isD = true) (n : noD t.data = true) {v : V} (hv : σ[i]? = some (some v)) : Dp K H v t.data := by
  obtain ⟨w, e, s, _⟩ := E.sl i _ h
  rw [hv] at e
  cases e
  exact Rp.dp (Ex.refl H) (s.rp E.fh hd fun _ _ => rfl) n
theorem wd_eqT {i : Nat} {t0 : OT} {tb : TE} (hi : ρ[i]? = some (some (.deep t0))) (h : WD B K tb ρ fun y ρ2 => ∃ t, ρ2[i]? = some (some (.deep t)) ∧ t.isD = true ∧ (noD t.data = true ∧ noD y = true ∧ SeqAt.shaped t.data = true ∧ SeqAt.shaped y = true) ∧ QD (.bool (PyData.eqv t.data y)) ρ2) : WD B K (tOp (rEqD K) (tVar i) tb) ρ QD := fun F H σ E QQ k => by
  obtain ⟨v, e, _⟩ := E.sl i _ hi
  exact ⟨v, e, h F H σ E _ fun u y F2 H2 ρ2 E2 e2 ru ⟨t, hx, hd, ⟨n1, n2, s1, s2⟩, q2⟩ => ⟨_, y, deep_dp E2 hx hd n1 e, Rp.dp E2.fh ru n2, s1, s2, k _ _ F2 H2 ρ2 E2 e2 (.bl _) q2⟩⟩
theorem wd_neT {i : Nat} {t0 : OT} {tb : TE} (hi : ρ[i]? = some (some (.deep t0))) (h : WD B K tb ρ fun y ρ2 => ∃ t, ρ2[i]? = some (some (.deep t)) ∧ t.isD = true ∧ (noD t.data = true ∧ noD y = true ∧ SeqAt.shaped t.data = true ∧ SeqAt.shaped y = true) ∧ QD (.bool (!PyData.eqv t.data y)) ρ2) : WD B K (tOp (rNeD K) (tVar i) tb) ρ QD := fun F H σ E QQ k => by
  obtain ⟨v, e, _⟩ := E.sl i _ hi
  exact ⟨v, e, h F H σ E _ fun u y F2 H2 ρ2 E2 e2 ru ⟨t, hx, hd, ⟨n1, n2, s1, s2⟩, q2⟩ => ⟨_, y, deep_dp E2 hx hd n1 e, Rp.dp E2.fh ru n2, s1, s2, k _ _ F2 H2 ρ2 E2 e2 (.bl _) q2⟩⟩
/-- == and != of a place within, with data -/
theorem place_dp {F H : Hp} {σ : L2.St} (E : EnvOk B K F H σ ρ) {i : Nat} {t u : OT} {π : List Nat} (h : ρ[i]? = some (some (.deep t))) (hat : t.at π = some u) (hd : u.isD = true) (n : noD u.data = true) : ∃ w, Ot K F H w u ∧ Dp K H w u.data := by
  obtain ⟨w, e, s, _⟩ := E.sl i _ h
  obtain ⟨⟨z, hz⟩, _⟩ := Ot.at π s hat
  exact ⟨z, hz, Rp.dp (Ex.refl H) (hz.rp E.fh hd fun _ _ => rfl) n⟩
theorem wd_neP {tb : TE} (h : WE B K to ρ fun r ρ1 => ∃ a, r = .raw (.ref a) ∧ WD B K tb ρ1 fun y ρ2 => ∃ (j : Nat) (t : OT) (π : List Nat) (ts : List OT), ρ2[j]? = some (some (.deep t)) ∧ t.at π = some (.lst a ts) ∧ areD ts = true ∧ (noD (.list (datas ts)) = true ∧ noD y = true ∧ SeqAt.shaped (.list (datas ts)) = true ∧ SeqAt.shaped y = true) ∧ QD (.bool (!PyData.eqv (.list (datas ts)) y)) ρ2) : WD B K (tOp (rNeD K) to tb) ρ QD := fun F H σ E QQ k =>
  h F H σ E _ fun v r F1 H1 ρ1 E1 e1 rv ⟨a, hr, q⟩ => by
    subst hr
    cases (show v = .ref a from rv)
    refine q F1 H1 σ E1 _ fun w y F2 H2 ρ2 E2 e2 ry ⟨j, t, π, ts, hj, hat, hd, ⟨n1, n2, s1, s2⟩, q2⟩ => ?_
    obtain ⟨w', ow, dw⟩ := place_dp E2 hj hat (show (OT.lst a ts).isD = true from hd) n1
    cases ow
    exact ⟨_, y, dw, Rp.dp E2.fh ry n2, s1, s2, k _ _ F2 H2 ρ2 E2 (e1.trans e2) (.bl _) q2⟩
theorem wd_eqP {tb : TE} (h : WE B K to ρ fun r ρ1 => ∃ a, r = .raw (.ref a) ∧ WD B K tb ρ1 fun y ρ2 => ∃ (j : Nat) (t : OT) (π : List Nat) (ts : List OT), ρ2[j]? = some (some (.deep t)) ∧ t.at π = some (.lst a ts) ∧ areD ts = true ∧ (noD (.list (datas ts)) = true ∧ noD y = true ∧ SeqAt.shaped (.list (datas ts)) = true ∧ SeqAt.shaped y = true) ∧ QD (.bool (PyData.eqv (.list (datas ts)) y)) ρ2) : WD B K (tOp (rEqD K) to tb) ρ QD := fun F H σ E QQ k =>
  h F H σ E _ fun v r F1 H1 ρ1 E1 e1 rv ⟨a, hr, q⟩ => by
    subst hr
    cases (show v = .ref a from rv)
    refine q F1 H1 σ E1 _ fun w y F2 H2 ρ2 E2 e2 ry ⟨j, t, π, ts, hj, hat, hd, ⟨n1, n2, s1, s2⟩, q2⟩ => ?_
    obtain ⟨w', ow, dw⟩ := place_dp E2 hj hat (show (OT.lst a ts).isD = true from hd) n1
    cases ow
    exact ⟨_, y, dw, Rp.dp E2.fh ry n2, s1, s2, k _ _ F2 H2 ρ2 E2 (e1.trans e2) (.bl _) q2⟩
/-! ### targets that take own things -/
def WGT (B : Bs) (K : Fr) (g : TGs) (ts : List OT) (ρ : En) (Q : En → Prop) : Prop := ∀ F H σ vs, EnvOk B K F H σ ρ → OtA K F H vs ts → (fps ts).Nodup → Free B σ ρ (fps ts) → ∀ QQ : L2.St → Hp → Prop, (∀ F' H' σ' ρ', EnvOk B K F' H' σ' ρ' → Ex F F' → Q ρ' → QQ σ' H') → g vs σ H QQ
theorem wgt_nil {q : En → Prop} (h : q ρ) : WGT B K gNil [] ρ q := fun F H σ vs E rv _ _ QQ k => by
  cases rv
  exact ⟨rfl, k F H σ ρ E (Ex.refl F) h⟩
theorem free_set {B : Bs} {σ : L2.St} {ρ : En} {as : List Addr} {i : Nat} {v : V} {l : L} (h : Free B σ ρ as) (n : ∀ a, a ∈ as → ¬ LFp v l a) : Free B (σ.set i (some v)) (ρ.set i (some l)) as := fun a ha => by
  refine ⟨(h a ha).1, fun j ⟨m, w, e1, e2, e3⟩ => ?_⟩
  rcases set_cases e1 with ⟨rfl, hj, e⟩ | ⟨nj, e⟩
  · cases e
    rcases set_cases e2 with ⟨_, _, e'⟩ | ⟨nj, _⟩
    · cases e'; exact n a ha e3
    · exact nj rfl
  · rw [List.getElem?_set_ne (Ne.symm nj)] at e2
    exact (h a ha).2 j ⟨m, w, e, e2, e3⟩
theorem wgt_d {i : Nat} {gs : TGs} {x : PyData} {ts : List OT} {q : En → Prop} (hp : NP B i) (h : WGT B K gs ts (ρ.set i (some (.d x))) q) : WGT B K (gCons (gName i) gs) (.d x :: ts) ρ q := fun F H σ vs E rv nd fr QQ k => by
  cases rv with
  | cons r1 r2 =>
    cases r1 with
    | d r1 => exact ⟨_, _, rfl, h F H _ _ (E.setD (l := .d x) r1 rfl hp) r2 nd (free_set fr fun a _ => LFp.no rfl) QQ fun F' H' σ' ρ' E' e' q' => k F' H' σ' ρ' E' e' q'⟩
theorem wgt_o {i : Nat} {gs : TGs} {u : OT} {ts : List OT} {q : En → Prop} (hp : NP B i) (h : WGT B K gs ts (ρ.set i (some (.deep u))) q) : WGT B K (gCons (gName i) gs) (u :: ts) ρ q := fun F H σ vs E rv nd fr QQ k => by
  cases rv with
  | cons r1 r2 =>
    obtain ⟨n1, n2, n3⟩ := List.nodup_append.mp (show (u.fp ++ fps ts).Nodup from nd)
    exact ⟨_, _, rfl, h F H _ _ (E.setN (l := .deep u) ⟨r1, n1⟩ (fun a ha => fr a (List.mem_append_left _ ha)) hp) r2 n2 (free_set (fun a ha => fr a (List.mem_append_right _ ha)) fun a ha z => n3 a z a ha rfl) QQ fun F' H' σ' ρ' E' e' q' => k F' H' σ' ρ' E' e' q'⟩
theorem ws_asgGT {n : Nat} {gs : TGs} (h : WE B K te ρ fun r ρ' => ∃ (p : Addr) (ts : List OT), r = .deep (.tup p ts) ∧ ts.length = n ∧ WGT B K gs ts ρ' Z.nx) : WS B K (tAsg te (gTup K n gs)) ρ Z := fun F H σ E D ok =>
  h F H σ E _ fun v r F' H' ρ' E' ef rv ⟨p, ts, hr, hn, q⟩ => by
    subst hr
    obtain ⟨o, nd, fr⟩ := rv
    cases o with
    | @tup _ vs _ k1 k2 k3 =>
      exact ⟨p, vs, rfl, .inl (.inl k2), by rw [k3.length]; exact hn, q F' H' σ vs E' k3 (List.nodup_cons.mp nd).2 (fun a ha => fr a (List.mem_cons_of_mem _ ha)) _ fun F2 H2 σ2 ρ2 E2 e2 q2 => ok.nx F2 H2 σ2 ρ2 E2 (ef.trans e2) q2⟩
/-! a value that becomes a part -/
def WK (B : Bs) (K : Fr) (te : TE) (ρ : En) (Q : OT → En → Prop) : Prop := WE B K te ρ fun r ρ' => Kid r fun u => Q u ρ'
variable {QK : OT → En → Prop}
theorem wk_e (h : WE B K te ρ fun r ρ' => Kid r fun u => QK u ρ') : WK B K te ρ QK := h
theorem wk_d (h : WD B K te ρ fun x ρ' => QK (.d x) ρ') : WK B K te ρ QK := we_d h
theorem wk_take {j : Nat} {xs : List PyData} (hj : ρ[j]? = some (some (.own xs))) (np : NP B j) (q : ∀ a, QK (.lst a (xs.map .d)) (ρ.set j none)) : WK B K (tVar j) ρ QK := we_take hj np q
theorem wk_takeT {j : Nat} {t : OT} (hj : ρ[j]? = some (some (.deep t))) (np : NP B j) (q : QK t (ρ.set j none)) : WK B K (tVar j) ρ QK := we_takeT hj np q
theorem we_appendV {j : Nat} {a : Addr} {ts : List OT} (hj : ρ[j]? = some (some (.deep (.lst a ts)))) (np : NP B j) (h : WK B K te ρ fun u ρ2 => ∃ ts', ρ2[j]? = some (some (.deep (.lst a ts'))) ∧ ts'.length < lim ∧ Q (.d .none) (ρ2.set j (some (.deep (.lst a (ts' ++ [u])))))) : WE B K (tBM K "list" rAppend (tVar j) (tCons te tNil)) ρ Q :=
  we_appendP (we_ptr hj ⟨a, rfl, ⟨j, _, [], ts, hj, rfl⟩, we_mono h fun r ρ2 k => by
    have ex : ∃ ts', ρ2[j]? = some (some (.deep (.lst a ts'))) ∧ ts'.length < lim := by
      cases r with
      | d x => obtain ⟨ts', q1, q2, _⟩ := k; exact ⟨ts', q1, q2⟩
      | new xs => obtain ⟨ts', q1, q2, _⟩ := k 0; exact ⟨ts', q1, q2⟩
      | deep t => obtain ⟨ts', q1, q2, _⟩ := k; exact ⟨ts', q1, q2⟩
      | newD ks xs => obtain ⟨ts', q1, q2, _⟩ := k 0; exact ⟨ts', q1, q2⟩
      | scr ns => exact k.elim
      | raw w => exact k.elim
    obtain ⟨ts', q1, q2⟩ := ex
    have fin : ∀ u, (∃ ts', ρ2[j]? = some (some (.deep (.lst a ts'))) ∧ ts'.length < lim ∧ Q (.d .none) (ρ2.set j (some (.deep (.lst a (ts' ++ [u])))))) → Q (.d .none) (ρ2.set j (some (.deep (OT.put [] (.lst a ts') (.lst a (ts' ++ [u])))))) := fun u ⟨ts2, e1, _, e3⟩ => by
      rw [q1] at e1
      cases e1
      exact e3
    refine ⟨j, _, [], ts', np, q1, rfl, q2, ?_⟩
    cases r with
    | d x => exact fin _ k
    | new xs => exact fun b => fin _ (k b)
    | deep t => exact fin _ k
    | newD ks xs => exact fun b => fin _ (k b)
    | scr ns => exact k.elim
    | raw w => exact k.elim⟩)
theorem wd_ixT {j : Nat} {a : Addr} {ts0 : List OT} {tb : TE} (hj : ρ[j]? = some (some (.deep (.lst a ts0)))) (h : WD B K tb ρ fun y ρ2 => ∃ ts i x, ρ2[j]? = some (some (.deep (.lst a ts))) ∧ y = .int i ∧ atI ts i = some (.d x) ∧ QD x ρ2) : WD B K (tOp (rIx K) (tVar j) tb) ρ QD :=
  wd_e (we_ixP (we_ptr hj ⟨a, rfl, wd_mono h fun y ρ2 ⟨ts, i, x, h1, h2, h3, q⟩ => ⟨j, _, [], ts, i, _, h2, h1, .inl rfl, h3, x, rfl, q⟩⟩))
def tAsgX (te : TE) (g : TG) : TS := fun D σ H => True ∧ tAsg te g D σ H
theorem ws_asgGX {n : Nat} {gs : TGs} (h : WE B K te ρ fun r ρ' => ∃ (p : Addr) (ts : List OT), r = .deep (.tup p ts) ∧ ts.length = n ∧ WGT B K gs ts ρ' Z.nx) : WS B K (tAsgX te (gTup K n gs)) ρ Z := fun F H σ E D ok => ⟨trivial, ws_asgGT h F H σ E D ok⟩
/-! ### displays of own things -/
def WXs (B : Bs) (K : Fr) (ta : TA) (ρ : En) (Q : List OT → En → Prop) : Prop := ∀ F H σ, EnvOk B K F H σ ρ → ∀ QQ : List V → Hp → Prop, (∀ vs ts F' H' ρ', EnvOk B K F' H' σ ρ' → Ex F F' → OtA K F' H' vs ts → (fps ts).Nodup → Free B σ ρ' (fps ts) → Q ts ρ' → QQ vs H') → ta σ H QQ
variable {QX : List OT → En → Prop}
theorem wx_nil (q : QX [] ρ) : WXs B K tNil ρ QX := fun F H σ E QQ k => k [] [] F H ρ E (Ex.refl F) .nil List.nodup_nil (fun a h => nomatch h) q
theorem wx_d (h : WD B K te ρ fun x ρ1 => WXs B K tr ρ1 fun ts ρ2 => QX (.d x :: ts) ρ2) : WXs B K (tCons te tr) ρ QX := fun F H σ E QQ k =>
  h F H σ E _ fun v x F1 H1 ρ1 E1 e1 rv q => q F1 H1 σ E1 _ fun vs ts F3 H3 ρ3 E3 e3 os nd fr q3 => k (v :: vs) (.d x :: ts) F3 H3 ρ3 E3 (e1.trans e3) (.cons (.d (Rp.mono e3 rv)) os) nd fr q3
theorem wx_o {p : Option Nat} (hp : B.pin.map Prod.fst = p) (h : WE B K te ρ fun r ρ1 => Kid r fun u => ∀ B' : Bs, B'.pin.map Prod.fst = p → WXs B' K tr ρ1 fun ts ρ2 => QX (u :: ts) ρ2) : WXs B K (tCons te tr) ρ QX := fun F H σ E QQ k =>
  h F H σ E _ fun v r F1 H1 ρ1 E1 e1 rv kd => by
    obtain ⟨u, ou, ndu, fu, q⟩ := kid_ok rv kd
    let B' : Bs := ⟨F1, fun a => if a ∈ u.fp then H1 a else B.H0 a, B.pin⟩
    have yes : ∀ a, a ∈ u.fp → B'.H0 a = H1 a := fun a ha => if_pos ha
    have no : ∀ a, a ∉ u.fp → B'.H0 a = B.H0 a := fun a ha => if_neg ha
    have nof : ∀ i a, SFp σ ρ1 i a → a ∉ u.fp := fun i a h z => (fu a z).2 i h
    have pinf : ∀ i a, B.pin = some (i, a) → a ∉ u.fp := fun i a e z => by
      obtain ⟨q1, q2⟩ := E1.pin i a e
      rcases q2 with ⟨⟨xs, q2⟩, _⟩ | ⟨⟨ks, xs, q2⟩, _⟩
      · exact nof i a ⟨_, _, q2, q1, rfl⟩ z
      · exact nof i a ⟨_, _, q2, q1, rfl⟩ z
    have E1' : EnvOk B' K F1 H1 σ ρ1 := by
      refine ⟨⟨Ex.refl F1, E1.fh, fun a o e n m => ?_, fun a h => ?_, fun a h _ => h, E1.st.tf, E1.st.tab⟩, E1.len, E1.sl, E1.sep, fun i a h => ?_, fun i a e => ?_⟩
      · by_cases c : a ∈ u.fp
        · rw [yes a c] at e; exact e
        · rw [no a c] at e; exact E1.st.h0 a o e n m
      · by_cases c : a ∈ u.fp
        · obtain ⟨_, o, e⟩ := ou.live c; exact ntb_live e (ou.nt c o e).1
        · rw [no a c] at h; exact E1.st.th a h
      · rw [no a (nof i a h)]; exact E1.mine i a h
      · rw [no a (pinf i a e)]; exact E1.pin i a e
    refine q B' hp F1 H1 σ E1' _ fun vs ts F2 H2 ρ2 E2 e2 os nd fr q2 => ?_
    have live : ∀ a, a ∈ u.fp → B'.H0 a ≠ none := fun a ha => by
      obtain ⟨_, o, e⟩ := ou.live ha
      rw [yes a ha, e]
      exact fun z => nomatch z
    have b0 : ∀ a, B'.H0 a = none → a ∉ u.fp ∧ B.H0 a = none := fun a h => by
      have c : a ∉ u.fp := fun z => live a z h
      exact ⟨c, by rw [← no a c]; exact h⟩
    have E2' : EnvOk B K F2 H2 σ ρ2 := by
      refine ⟨⟨E1.st.f0.trans E2.st.f0, E2.st.fh, fun a o e n m => ?_, fun a h => ?_, fun a h1 h2 => ?_, E2.st.tf, E2.st.tab⟩, E2.len, E2.sl, E2.sep, fun i a h => ?_, fun i a e => ?_⟩
      · have c : a ∉ u.fp := fun z => by rw [(fu a z).1] at e; cases e
        exact E2.st.h0 a o (by rw [no a c]; exact e) n m
      · have c : a ∉ u.fp := fun z => h (fu a z).1
        exact E2.st.th a (by rw [no a c]; exact h)
      · have c : a ∉ u.fp := fun z => h2 (fu a z).1
        exact E2.st.nf a (E1.st.nf a h1 h2) (by rw [no a c]; exact h2)
      · rcases E2.mine i a h with k | k
        · exact .inl (b0 a k).2
        · exact .inr k
      · obtain ⟨q1, q2⟩ := E2.pin i a e
        rw [no a (pinf i a e)] at q2
        exact ⟨q1, q2⟩
    have keep : ∀ a, a ∈ u.fp → F2 a = none ∧ H2 a = H1 a := fun a ha => by
      obtain ⟨k1, o, k2⟩ := ou.live ha
      refine ⟨E2.st.nf a k1 (live a ha), ?_⟩
      rw [k2]
      exact E2.st.h0 a o (by rw [yes a ha]; exact k2) (fun i z => pinf i a z ha) (ou.nt ha o k2).1
    refine k (v :: vs) (u :: ts) F2 H2 ρ2 E2' (e1.trans e2) (.cons (ou.mono e2 keep) os) ?_ ?_ q2
    · refine List.nodup_append.mpr ⟨ndu, nd, fun a ha b hb z => ?_⟩
      subst z
      exact live a ha (fr a hb).1
    · intro a ha
      rcases List.mem_append.mp ha with ha | ha
      · refine ⟨(fu a ha).1, fun i h => ?_⟩
        rcases E2.mine i a h with k | k
        · exact live a ha k
        · exact pinf i a k ha
      · exact ⟨(b0 a (fr a ha).1).2, (fr a ha).2⟩
theorem wx_var {i : Nat} {x : PyData} (h : ρ[i]? = some (some (.d x))) (q : WXs B K tr ρ fun ts ρ2 => QX (.d x :: ts) ρ2) : WXs B K (tCons (tVar i) tr) ρ QX := wx_d (wd_var h q)
theorem wx_str {s : Str} (q : WXs B K tr ρ fun ts ρ2 => QX (.d (.str s) :: ts) ρ2) : WXs B K (tCons (tC (.str s)) tr) ρ QX := wx_d (wd_str q)
theorem wx_int {s : Int} (q : WXs B K tr ρ fun ts ρ2 => QX (.d (.int s) :: ts) ρ2) : WXs B K (tCons (tC (.int s)) tr) ρ QX := wx_d (wd_int q)
theorem wx_take {p : Option Nat} (hp : B.pin.map Prod.fst = p) {j : Nat} {xs : List PyData} (hj : ρ[j]? = some (some (.own xs))) (np : NP B j) (q : ∀ a (B' : Bs), B'.pin.map Prod.fst = p → WXs B' K tr (ρ.set j none) fun ts ρ2 => QX (.lst a (xs.map .d) :: ts) ρ2) : WXs B K (tCons (tVar j) tr) ρ QX := wx_o hp (we_take hj np q)
theorem wx_takeT {p : Option Nat} (hp : B.pin.map Prod.fst = p) {j : Nat} {t : OT} (hj : ρ[j]? = some (some (.deep t))) (np : NP B j) (q : ∀ (B' : Bs), B'.pin.map Prod.fst = p → WXs B' K tr (ρ.set j none) fun ts ρ2 => QX (t :: ts) ρ2) : WXs B K (tCons (tVar j) tr) ρ QX := wx_o hp (we_takeT hj np q)
def tTupX (t : TA) : TE := fun σ H Q => True ∧ tTup t σ H Q
def tLstX (t : TA) : TE := fun σ H Q => True ∧ tLst t σ H Q
theorem we_nodeX {a : Addr} {F H : Hp} {σ : L2.St} (E : EnvOk B K F H σ ρ) {p : Addr} (hp : H p = none) {vs : List V} {ts : List OT} {o : HO} {t : OT} (ht : t.fp = p :: fps ts) (os : OtA K F H vs ts) (nd : (fps ts).Nodup) (fr : Free B σ ρ (fps ts)) (mk : OtA K F (upd H p o) vs ts → Ot K F (upd H p o) (.ref p) t) :
    EnvOk B K F (upd H p o) σ ρ ∧ ROk B K F (upd H p o) σ ρ (.ref p) (.deep t) := by
  have np : p ∉ fps ts := fun z => by
    obtain ⟨_, o', e⟩ := os.live z
    rw [hp] at e; cases e
  refine ⟨E.allocO hp, mk (os.mono (Ex.refl F) fun b hb => ⟨(os.live hb).1, upd_ne fun z => np (by rw [← z]; exact hb)⟩), by rw [ht]; exact List.nodup_cons.mpr ⟨np, nd⟩, fun b hb => ?_⟩
  rw [ht] at hb
  rcases List.mem_cons.mp hb with rfl | hb
  · exact ⟨E.h0p hp, fun i => E.fr hp i⟩
  · exact fr b hb
theorem we_tupX (h : WXs B K tl ρ fun ts ρ' => ts.length ≤ lim ∧ ∀ p, Q (.deep (.tup p ts)) ρ') : WE B K (tTupX tl) ρ Q := fun F H σ E QQ k => ⟨trivial,
  h F H σ E _ fun vs ts F1 H1 ρ1 E1 e1 os nd fr ⟨hz, q⟩ => ⟨by rw [os.length]; exact lim_le hz, fun p hp => by
    obtain ⟨E2, r2⟩ := we_nodeX (a := p) E1 hp (o := .tup vs) (t := .tup p ts) rfl os nd fr fun o => .tup (E1.fh.free hp) upd_same o
    exact k _ (.deep (.tup p ts)) F1 _ ρ1 E2 e1 r2 (q p)⟩⟩
theorem we_lstX (h : WXs B K tl ρ fun ts ρ' => ts.length ≤ lim ∧ ∀ p, Q (.deep (.lst p ts)) ρ') : WE B K (tLstX tl) ρ Q := fun F H σ E QQ k => ⟨trivial,
  h F H σ E _ fun vs ts F1 H1 ρ1 E1 e1 os nd fr ⟨hz, q⟩ => ⟨by rw [os.length]; exact lim_le hz, fun p hp => by
    obtain ⟨E2, r2⟩ := we_nodeX (a := p) E1 hp (o := .lst vs) (t := .lst p ts) rfl os nd fr fun o => .lst (E1.fh.free hp) upd_same o
    exact k _ (.deep (.lst p ts)) F1 _ ρ1 E2 e1 r2 (q p)⟩⟩
end
theorem ps_asgX {X : Cx} {st : Stmt} {te : TE} {g : TG} (h : PS X st (tAsg te g)) : PS X st (tAsgX te g) := ⟨fun pins s σ H D I hh => h.run pins s σ H D I hh.2⟩
theorem pe_tupX {X : Cx} {es : List Expr} {k : Nat} {pos : Pos} {t : TA} (h : PE X (.Tuple es k pos) (tTup t)) : PE X (.Tuple es k pos) (tTupX t) := ⟨fun pins s σ H Q I hh => h.run pins s σ H Q I hh.2⟩
theorem pe_lstX {X : Cx} {e : Expr} {t : TA} (h : PE X e (tLst t)) : PE X e (tLstX t) := ⟨fun pins s σ H Q I hh => h.run pins s σ H Q I hh.2⟩
theorem slc_list {xs : List PyData} {lo hi : Option Int} {k : R → Prop} (h : k (.new (cutD xs lo hi))) : Slc (.list xs) lo hi k := h
theorem slc_tup {xs : List PyData} {lo hi : Option Int} {k : R → Prop} (h : k (.d (.tuple (cutD xs lo hi)))) : Slc (.tuple xs) lo hi k := h
theorem slc_str {z : Str} {lo hi : Option Int} {k : R → Prop} (hz : z.length ≤ lim) (h : k (.d (.str (cutS z lo hi)))) : Slc (.str z) lo hi k := ⟨hz, h⟩
theorem toD_deep {t : OT} (h : t.isD = true) : (R.deep t).toD = some t.data := by
  unfold R.toD
  simp only [h, if_true]
theorem toL_of {r : R} {x : PyData} (h : r.toD = some x) : r.toL = some (.d x) := by
  cases r with
  | d y => cases h; rfl
  | new xs => cases h; rfl
  | scr ns => cases h
  | raw w => cases h
  | newD ks xs => cases h
  | deep t =>
    unfold R.toD at h
    unfold R.toL
    by_cases c : t.isD = true
    · simp only [c, if_true] at h ⊢
      cases h
      rfl
    · simp only [c] at h
      cases h
/-! a callee takes over what a slot owns -/
def tCallC (sp : Sp) (E : XK) (t : TA) : TE := fun σ H Q => (True ∧ True) ∧ tCall sp [] E t σ H Q
theorem pe_give {X : Cx} {e : Expr} {sp : Sp} {E : XK} {t : TA} (h : PE X e (tCall sp [] E t)) : PE X e (tCallC sp E t) := ⟨fun pins s σ H Q I hh => h.run pins s σ H Q I hh.2⟩
theorem we_callG {B : Bs} {K : Fr} {ρ : En} {ta : TA} {Q : R → En → Prop} {G : GF} {E : XK} (h : WA B K ta ρ fun as ρ1 => ∃ pre post j l l1 l2 Pe, as = pre ++ .own j :: post ∧ ρ1[j]? = some (some l) ∧ (∀ a, B.pin ≠ some (j, a)) ∧ argL pre = some l1 ∧ argL post = some l2 ∧ G (l1 ++ l :: l2) (fun r _ => Q r (ρ1.set j none)) Pe ∧ ∀ C, Pe C → EK B K E C) :
    WE B K (tCallC (SpG K none G) E ta) ρ Q := fun F H σ E0 QQ k => ⟨⟨trivial, trivial⟩, we_callC h F H σ E0 QQ k⟩
theorem wa_ownT {B : Bs} {K : Fr} {ρ : En} {tr : TA} {QA : List Ar → En → Prop} {j : Nat} {t : OT} (h : ρ[j]? = some (some (.deep t))) (q : WA B K tr ρ fun as ρ2 => QA (.own j :: as) ρ2) : WA B K (tCons (tVar j) tr) ρ QA := fun F H σ E QQ k => by
  obtain ⟨v, e, _⟩ := E.sl j _ h
  exact ⟨v, e, q F H σ E _ fun vs as F3 H3 ρ3 E3 e3 as' q3 => k _ _ F3 H3 ρ3 E3 e3 (.cons (a := .own j) e as') q3⟩
theorem wa_ownD {B : Bs} {K : Fr} {ρ : En} {tr : TA} {QA : List Ar → En → Prop} {j : Nat} {ks : List Key} {xs : List PyData} (h : ρ[j]? = some (some (.ownD ks xs))) (q : WA B K tr ρ fun as ρ2 => QA (.own j :: as) ρ2) : WA B K (tCons (tVar j) tr) ρ QA := fun F H σ E QQ k => by
  obtain ⟨v, e, _⟩ := E.sl j _ h
  exact ⟨v, e, q F H σ E _ fun vs as F3 H3 ρ3 E3 e3 as' q3 => k _ _ F3 H3 ρ3 E3 e3 (.cons (a := .own j) e as') q3⟩
/-! a callee that changes a new list that is handed in last -/
def WAN (B : Bs) (K : Fr) (ta : TA) (ρ : En) (Q : List PyData → List PyData → En → Prop) : Prop := ∀ F H σ, EnvOk B K F H σ ρ → ∀ QQ : List V → Hp → Prop, (∀ vs v ds xs F' H' ρ', EnvOk B K F' H' σ ρ' → Ex F F' → RpA K F' vs ds → ROk B K F' H' σ ρ' v (.new xs) → Q ds xs ρ' → QQ (vs ++ [v]) H') → ta σ H QQ
def tCallN (sp : Sp) (E : XK) (t : TA) : TE := fun σ H Q => ((True ∧ True) ∧ True) ∧ tCall sp [] E t σ H Q
theorem pe_tmp {X : Cx} {e : Expr} {sp : Sp} {E : XK} {t : TA} (h : PE X e (tCall sp [] E t)) : PE X e (tCallN sp E t) := ⟨fun pins s σ H Q I hh => h.run pins s σ H Q I hh.2⟩
section
variable {B : Bs} {K : Fr} {F F' H H' : Hp} {σ : L2.St} {ρ : En} {te : TE} {tr ta : TA} {Q : R → En → Prop} {QN : List PyData → List PyData → En → Prop}
theorem wan_last (h : WE B K te ρ fun r ρ' => ∃ xs, r = .new xs ∧ QN [] xs ρ') : WAN B K (tCons te tNil) ρ QN := fun F H σ E QQ k =>
  h F H σ E _ fun v r F1 H1 ρ1 E1 e1 rv ⟨xs, hr, q⟩ => by
    subst hr
    exact k [] v [] xs F1 H1 ρ1 E1 e1 .nil rv q
theorem wan_cons (h : WD B K te ρ fun x ρ1 => WAN B K tr ρ1 fun ds xs ρ2 => QN (x :: ds) xs ρ2) : WAN B K (tCons te tr) ρ QN := fun F H σ E QQ k =>
  h F H σ E _ fun v x F1 H1 ρ1 E1 e1 rv q => q F1 H1 σ E1 _ fun vs w ds xs F3 H3 ρ3 E3 e3 rs rw' q3 => k (v :: vs) w (x :: ds) xs F3 H3 ρ3 E3 (e1.trans e3) (.cons (Rp.mono e3 rv) rs) rw' q3
theorem EnvOk.stepX (E : EnvOk B K F H σ ρ) {p : Nat} {a : Addr} (ha : B.H0 a = none) (hn : ∀ i, ¬ SFp σ ρ i a) (hF : F a = none) (st : St1 ⟨F, ntb H, some (p, a)⟩ F' H') : EnvOk B K F' H' σ ρ := by
  have ne : ∀ b o, b ≠ a → H b = some o → (∀ ps, o ≠ .tbl ps) → H' b = some o := fun b o n e m => st.h0 b o (ntb_at e m) (fun i z => n (Prod.mk.inj (Option.some.inj z)).2.symm) m
  refine ⟨⟨E.st.f0.trans st.f0, st.fh, fun b u e n m => ?_, fun b hb => st.th b (E.st.th b hb), fun b h1 h2 => st.nf b (E.st.nf b h1 h2) (E.st.th b h2), st.tf, st.tab⟩, E.len, E.sl_mono st.f0 fun i b h => ?_, E.sep, E.mine, E.pin⟩
  · exact ne b u (fun z => by rw [z, ha] at e; cases e) (E.st.h0 b u e n m) m
  · obtain ⟨k1, o, k2⟩ := E.live h
    have nb : b ≠ a := fun z => hn i (by rw [← z]; exact h)
    exact ⟨st.nf b k1 (ntb_live k2 (E.nt h o k2).1), (ne b o nb k2 (E.nt h o k2).1).trans k2.symm⟩
theorem we_callPN {G : GF} {E : XK} {p : Nat} (h : WAN B K ta ρ fun ds xs ρ1 => ∃ Pe, ds.length = p ∧ G (ds.map .d ++ [.own xs]) (fun r _ => Q r ρ1) Pe ∧ ∀ C, Pe C → EK B K E C) : WE B K (tCallN (SpG K (some p) G) E ta) ρ Q := fun F H σ E0 QQ k => ⟨⟨⟨trivial, trivial⟩, trivial⟩,
  h F H σ E0 _ fun vs v ds xs F1 H1 ρ1 E1 e1 rs rv ⟨Pe, hp, hG, hE⟩ => by
    show SpG K (some p) G ((vs ++ [v]) ++ []) H1 QQ E
    rw [List.append_nil]
    obtain ⟨a, cs, rfl, f1, f2, f3, f4, f5⟩ := rv
    have hu : vs.length = p := by rw [rs.length]; exact hp
    have pa : pinAt (some p) (vs ++ [.ref a]) = some (p, a) := pinAt_own hu
    have s1 : ∀ (i : Nat) (l : L), (ds.map L.d)[i]? = some l → (∃ v, vs[i]? = some v ∧ SlotOk K F1 H1 v l) ∧ l.pl = true := fun i l e => by
      rw [List.getElem?_map] at e
      cases q : ds[i]? with
      | none => rw [q] at e; cases e
      | some d =>
        rw [q] at e
        cases e
        obtain ⟨w, hw, rw'⟩ := rs.get' q
        exact ⟨⟨w, hw, rw'⟩, rfl⟩
    have A := args_own (p := p) (H0 := ntb H1) (pin := some (p, a)) (v := .ref a) (l := .own xs) (l1 := ds.map L.d) (l2 := []) (ws := []) (by rw [List.length_map]; exact hp) E1.fh E1.st.tt (ntb_tf H1) (fun b o e => (ntb_of e).1) (by rw [List.length_map]; exact rs.length) s1 rfl (fun i l e => by simp at e) ⟨a, cs, rfl, f1, f2, f3⟩ (fun b hb => .inr (by cases (show V.ref a = V.ref b from hb); rfl))
      (fun i b e => by cases e; exact ⟨rfl, rfl, .inl ⟨⟨xs, rfl⟩, cs, ntb_at f2 (nt_lst _).1⟩⟩)
    have back : ∀ F' H', St1 ⟨F1, ntb H1, some (p, a)⟩ F' H' → EnvOk B K F' H' σ ρ1 := fun F' H' st => E1.stepX f4 f5 f1 st
    unfold SpG
    rw [pa]
    refine ⟨F1, ntb H1, ds.map L.d ++ [.own xs], fun r _ => Q r ρ1, Pe, ⟨by rw [pa]; exact A, by rw [pa]; rfl⟩, hG, fun v r F' H' ys st rv ow q => ?_, fun C F' H' ys st ow hC => hE C hC F' H' σ _ (back F' H' st)⟩
    exact k v r F' H' _ (back F' H' st) (e1.trans st.f0) (ret_ok (back F' H' st) E1.fr2 rv) q⟩
end
end SV

set_option maxHeartbeats 1000000
namespace SV
open PySem PySem.Spec L2
open Evl (Ex)
variable [Tbs]
/-! ### own dicts of data: the keys, and what stands at each -/
instance memKey (k : Key) : (ks : List Key) → Decidable (k ∈ ks)
  | [] => .isFalse (fun h => nomatch h)
  | j :: ks => if e : k = j then .isTrue (by rw [e]; exact List.mem_cons_self) else match memKey k ks with
    | .isTrue h => .isTrue (List.mem_cons_of_mem _ h)
    | .isFalse h => .isFalse fun z => (List.mem_cons.mp z).elim e h
def getK {α : Type} : List Key → List α → Key → Option α
  | k :: ks, x :: xs, j => if k = j then some x else getK ks xs j
  | _, _, _ => none
def replK {α : Type} (ks : List Key) (xs : List α) (k : Key) (x : α) : List α := List.zipWith (fun j y => if j = k then x else y) ks xs
def putKs (ks : List Key) (k : Key) : List Key := if k ∈ ks then ks else ks ++ [k]
def putXs {α : Type} (ks : List Key) (xs : List α) (k : Key) (x : α) : List α := if k ∈ ks then replK ks xs k x else xs ++ [x]
section
variable {α : Type}
theorem getK_cons {k j : Key} {ks : List Key} {x : α} {xs : List α} : getK (k :: ks) (x :: xs) j = if k = j then some x else getK ks xs j := rfl
theorem getK_nil {xs : List α} {j : Key} : getK [] xs j = none := by unfold getK; rfl
theorem getK_none : ∀ {ks : List Key} {xs : List α} {k : Key}, k ∉ ks → getK ks xs k = none
  | [], _, _, _ => getK_nil
  | j :: ks, [], _, _ => by unfold getK; rfl
  | j :: ks, x :: xs, k, h => by
    rw [getK_cons, if_neg fun z => h (by rw [z]; exact List.mem_cons_self)]
    exact getK_none fun z => h (List.mem_cons_of_mem _ z)
theorem getK_some : ∀ {ks : List Key} {xs : List α} {k : Key}, k ∈ ks → ks.length = xs.length → ∃ x, getK ks xs k = some x
  | j :: ks, [], _, _, hl => by cases hl
  | j :: ks, x :: xs, k, h, hl => by
    rw [getK_cons]
    by_cases c : j = k
    · exact ⟨x, if_pos c⟩
    · rw [if_neg c]
      exact getK_some ((List.mem_cons.mp h).resolve_left fun z => c z.symm) (by simpa using hl)
theorem getK_in {ks : List Key} {xs : List α} {k : Key} {x : α} (h : getK ks xs k = some x) : k ∈ ks := Classical.byContradiction fun c => by rw [getK_none c] at h; cases h
theorem getK_app : ∀ {ks js : List Key} {xs ys : List α} {k : Key}, ks.length = xs.length → getK (ks ++ js) (xs ++ ys) k = if k ∈ ks then getK ks xs k else getK js ys k
  | [], js, [], ys, k, _ => by rw [if_neg (List.not_mem_nil)]; rfl
  | [], _, _ :: _, _, _, h => by cases h
  | _ :: _, _, [], _, _, h => by cases h
  | j :: ks, js, x :: xs, ys, k, h => by
    rw [List.cons_append, List.cons_append, getK_cons, getK_cons, getK_app (by simpa using h)]
    by_cases c : j = k
    · rw [if_pos c, if_pos c, if_pos (by rw [c]; exact List.mem_cons_self)]
    · rw [if_neg c, if_neg c]
      by_cases m : k ∈ ks
      · rw [if_pos m, if_pos (List.mem_cons_of_mem _ m)]
      · rw [if_neg m, if_neg fun z => m ((List.mem_cons.mp z).resolve_left fun y => c y.symm)]
theorem getK_repl {k : Key} {x : α} : ∀ {ks : List Key} {xs : List α} (j : Key), ks.length = xs.length → getK ks (replK ks xs k x) j = if k = j ∧ k ∈ ks then some x else getK ks xs j
  | [], _, j, _ => by rw [getK_nil, getK_nil, if_neg fun z => nomatch z.2]
  | _ :: _, [], _, h => by cases h
  | i :: ks, y :: xs, j, h => by
    show getK (i :: ks) ((if i = k then x else y) :: replK ks xs k x) j = _
    rw [getK_cons, getK_cons, getK_repl j (by simpa using h)]
    by_cases ij : i = j
    · rw [if_pos ij, if_pos ij]
      by_cases ik : i = k
      · rw [if_pos ik, if_pos ⟨ik.symm.trans ij, by rw [ik]; exact List.mem_cons_self⟩]
      · rw [if_neg ik, if_neg fun z => ik (ij.trans z.1.symm)]
    · rw [if_neg ij, if_neg ij]
      by_cases c : k = j ∧ k ∈ ks
      · rw [if_pos c, if_pos ⟨c.1, List.mem_cons_of_mem _ c.2⟩]
      · rw [if_neg c, if_neg fun z => c ⟨z.1, (List.mem_cons.mp z.2).resolve_left fun y => ij (y.symm.trans z.1)⟩]
theorem replK_len {k : Key} {x : α} {ks : List Key} {xs : List α} (h : ks.length = xs.length) : (replK ks xs k x).length = xs.length := by
  unfold replK
  rw [List.length_zipWith, h, Nat.min_self]
theorem put_len {k : Key} {x : α} {ks : List Key} {xs : List α} (h : ks.length = xs.length) : (putKs ks k).length = (putXs ks xs k x).length := by
  unfold putKs putXs
  by_cases c : k ∈ ks
  · rw [if_pos c, if_pos c, replK_len h]; exact h
  · rw [if_neg c, if_neg c, List.length_append, List.length_append, h]; rfl
theorem put_new {k : Key} {x : α} {ks : List Key} {xs : List α} (h : k ∉ ks) : putKs ks k = ks ++ [k] ∧ putXs ks xs k x = xs ++ [x] := ⟨if_neg h, if_neg h⟩
theorem getK_put {k : Key} {x : α} {ks : List Key} {xs : List α} (j : Key) (h : ks.length = xs.length) : getK (putKs ks k) (putXs ks xs k x) j = if k = j then some x else getK ks xs j := by
  unfold putKs putXs
  by_cases c : k ∈ ks
  · rw [if_pos c, if_pos c, getK_repl j h]
    by_cases e : k = j
    · rw [if_pos ⟨e, c⟩, if_pos e]
    · rw [if_neg fun z => e z.1, if_neg e]
  · rw [if_neg c, if_neg c, getK_app h]
    by_cases e : k = j
    · subst e
      rw [if_neg c, if_pos rfl, getK_cons, if_pos rfl]
    · rw [if_neg e, getK_cons, if_neg e, getK_nil]
      by_cases m : j ∈ ks
      · rw [if_pos m]
      · rw [if_neg m, getK_none m]
theorem mem_put {k j : Key} {ks : List Key} : j ∈ putKs ks k ↔ j = k ∨ j ∈ ks := by
  unfold putKs
  by_cases c : k ∈ ks
  · rw [if_pos c]
    exact ⟨.inr, fun h => h.elim (fun e => by rw [e]; exact c) id⟩
  · rw [if_neg c, List.mem_append, List.mem_singleton]
    exact Or.comm
end
/-! the layer's dicts -/
section
variable {K : Fr} {F H : Hp}
theorem valV_get : ∀ {ks : List Key} {vs : List V} {k : Key}, valV (ks.zip vs) k = getK ks vs k
  | [], _, _ => by rw [getK_nil]; rfl
  | _ :: _, [], _ => by unfold getK; rfl
  | j :: ks, v :: vs, k => by
    rw [List.zip_cons_cons, getK_cons]
    by_cases c : j = k
    · rw [if_pos c, valV_pos (p := (j, v)) c]
    · rw [if_neg c, valV_neg (p := (j, v)) c]
      exact valV_get
theorem RpA.getK : ∀ {ks : List Key} {vs : List V} {xs : List PyData} {k : Key}, RpA K F vs xs → (∀ x, getK ks xs k = some x → ∃ v, SV.getK ks vs k = some v ∧ Rp K F v x) ∧ (SV.getK ks xs k = none → SV.getK ks vs k = none)
  | [], _, _, _, _ => by rw [getK_nil]; exact ⟨(fun x h => nomatch h), fun _ => getK_nil⟩
  | _ :: _, [], _, _, .nil => ⟨(fun x h => by unfold SV.getK at h; cases h), fun _ => by unfold SV.getK; rfl⟩
  | j :: ks, v :: vs, _ :: xs, k, .cons h r => by
    rw [getK_cons, getK_cons]
    by_cases c : j = k
    · rw [if_pos c, if_pos c]
      exact ⟨(fun x e => by cases e; exact ⟨v, rfl, h⟩), fun e => nomatch e⟩
    · rw [if_neg c, if_neg c]
      exact RpA.getK r
theorem RpA.repl : ∀ {ks : List Key} {vs : List V} {xs : List PyData} {k : Key} {v : V} {x : PyData}, RpA K F vs xs → Rp K F v x → RpA K F (replK ks vs k v) (replK ks xs k x)
  | [], _, _, _, _, _, _, _ => .nil
  | _ :: _, [], _, _, _, _, .nil, _ => .nil
  | j :: ks, _ :: vs, _ :: xs, k, v, x, .cons h r, q => by
    show RpA K F ((if j = k then v else _) :: replK ks vs k v) ((if j = k then x else _) :: replK ks xs k x)
    by_cases c : j = k
    · rw [if_pos c, if_pos c]; exact .cons q (RpA.repl r q)
    · rw [if_neg c, if_neg c]; exact .cons h (RpA.repl r q)
theorem any_mem {ks : List Key} {vs : List V} {k : Key} (h : ks.length = vs.length) : ((ks.zip vs).any fun kv => decide (kv.1 = k)) = decide (k ∈ ks) := by
  rw [valV_any, valV_get]
  by_cases c : k ∈ ks
  · obtain ⟨x, e⟩ := getK_some c h
    rw [e, decide_eq_true c]
    rfl
  · rw [getK_none c, decide_eq_false c]
    rfl
theorem map_zip {ks : List Key} {vs : List V} {k : Key} {v : V} : (ks.zip vs).map (fun kv => if kv.1 = k then (kv.1, v) else kv) = ks.zip (replK ks vs k v) := by
  induction ks generalizing vs with
  | nil => rfl
  | cons j ks ih =>
    cases vs with
    | nil => rfl
    | cons y vs =>
      show (if j = k then (j, v) else (j, y)) :: (ks.zip vs).map _ = (j, if j = k then v else y) :: ks.zip (replK ks vs k v)
      rw [ih]
      by_cases c : j = k
      · rw [if_pos c, if_pos c]
      · rw [if_neg c, if_neg c]
theorem putK_zip {ks : List Key} {vs : List V} {k : Key} {v : V} (h : ks.length = vs.length) : putK (ks.zip vs) k v = (putKs ks k).zip (putXs ks vs k v) := by
  unfold putK putKs putXs
  rw [any_mem h]
  by_cases c : k ∈ ks
  · rw [if_pos (decide_eq_true c), if_pos c, if_pos c, map_zip]
  · rw [if_neg (by rw [decide_eq_false c]; exact fun z => nomatch z), if_neg c, if_neg c]
    rw [List.zip_append h]
    rfl
theorem RpA.put {ks : List Key} {vs : List V} {xs : List PyData} {k : Key} {v : V} {x : PyData} (r : RpA K F vs xs) (q : Rp K F v x) : RpA K F (putXs ks vs k v) (putXs ks xs k x) := by
  unfold putXs
  by_cases c : k ∈ ks
  · rw [if_pos c, if_pos c]; exact r.repl q
  · rw [if_neg c, if_neg c]; exact r.append (.cons q .nil)
theorem rp_key {v : V} {k : Key} (h : Rp K F v (keyD k)) : v = kV k := by
  cases k with
  | inl i => exact h.int_inv
  | inr s => exact h.str_inv
theorem key_rp (k : Key) : Rp K F (kV k) (keyD k) := by
  cases k with
  | inl i => exact .int i
  | inr s => exact .str s
end
section
variable {B : Bs} {K : Fr} {F H : Hp} {σ : L2.St} {ρ : En} {ty tv tx : TE} {Q : R → En → Prop} {QD : PyData → En → Prop} {Z : Zs}
theorem we_dnewO (q : Q (.newD [] []) ρ) : WE B K tDNewK ρ Q := fun F H σ E QQ k p hp =>
  k _ (.newD [] []) F _ ρ (E.allocO hp) (Ex.refl F) ⟨p, [], rfl, E.fh.free hp, upd_same, rfl, .nil, E.h0p hp, fun i => E.fr hp i⟩ q
theorem wd_dinO {j : Nat} (h : WD B K ty ρ fun y ρ1 => ∃ k ks xs, y = keyD k ∧ ρ1[j]? = some (some (.ownD ks xs)) ∧ QD (.bool (decide (k ∈ ks))) ρ1) : WD B K (tDIn ty (tVar j)) ρ QD := fun F H σ E QQ kk =>
  h F H σ E _ fun v y F1 H1 ρ1 E1 e1 rv ⟨k, ks, xs, hy, hj, q⟩ => by
    subst hy
    rw [rp_key rv]
    obtain ⟨a, vs, ha, f1, f2, hl, f3⟩ := E1.ownD_at hj
    refine ⟨.ref a, ha, a, valV (ks.zip vs) k, rfl, DGet.k f2, ?_⟩
    rw [← valV_any, any_mem (by rw [f3.length]; exact hl)]
    exact kk _ _ F1 H1 ρ1 E1 e1 (.bl _) q
theorem wd_dnotinO {j : Nat} (h : WD B K ty ρ fun y ρ1 => ∃ k ks xs, y = keyD k ∧ ρ1[j]? = some (some (.ownD ks xs)) ∧ QD (.bool (!decide (k ∈ ks))) ρ1) : WD B K (tDNotIn ty (tVar j)) ρ QD := fun F H σ E QQ kk =>
  h F H σ E _ fun v y F1 H1 ρ1 E1 e1 rv ⟨k, ks, xs, hy, hj, q⟩ => by
    subst hy
    rw [rp_key rv]
    obtain ⟨a, vs, ha, f1, f2, hl, f3⟩ := E1.ownD_at hj
    refine ⟨.ref a, ha, a, valV (ks.zip vs) k, rfl, DGet.k f2, ?_⟩
    rw [← valV_any, any_mem (by rw [f3.length]; exact hl)]
    exact kk _ _ F1 H1 ρ1 E1 e1 (.bl _) q
theorem wd_dgetO {j : Nat} {ks0 : List Key} {xs0 : List PyData} (hj0 : ρ[j]? = some (some (.ownD ks0 xs0))) (h : WD B K ty ρ fun y ρ1 => ∃ k ks xs x, y = keyD k ∧ ρ1[j]? = some (some (.ownD ks xs)) ∧ getK ks xs k = some x ∧ QD x ρ1) : WD B K (tDGet (tVar j) ty) ρ QD := fun F H σ E QQ kk => by
  obtain ⟨a, vs0, ha, _⟩ := E.ownD_at hj0
  refine ⟨.ref a, ha, h F H σ E _ fun v y F1 H1 ρ1 E1 e1 rv ⟨k, ks, xs, x, hy, hj, hx, q⟩ => ?_⟩
  subst hy
  rw [rp_key rv]
  obtain ⟨a', vs, ha', f1, f2, hl, f3⟩ := E1.ownD_at hj
  rw [ha] at ha'
  cases ha'
  obtain ⟨w, hw, rw'⟩ := (f3.getK (ks := ks) (k := k)).1 x hx
  exact ⟨a, w, rfl, by rw [← hw, ← valV_get]; exact DGet.k f2, kk _ _ F1 H1 ρ1 E1 e1 rw' q⟩
theorem wd_dget2O {j : Nat} {ks0 : List Key} {xs0 : List PyData} (hj0 : ρ[j]? = some (some (.ownD ks0 xs0))) (h : WD B K ty ρ fun y ρ1 => WD B K tx ρ1 fun z ρ2 => ∃ k ks xs, y = keyD k ∧ ρ2[j]? = some (some (.ownD ks xs)) ∧ QD ((getK ks xs k).getD z) ρ2) : WD B K (tDGet2 (tVar j) ty tx) ρ QD := fun F H σ E QQ kk => by
  obtain ⟨a, vs0, ha, _, f0, _⟩ := E.ownD_at hj0
  refine ⟨.ref a, ha, a, rfl, .inl ⟨_, .inl f0⟩, h F H σ E _ fun v y F1 H1 ρ1 E1 e1 rv q1 => q1 F1 H1 σ E1 _ fun u z F2 H2 ρ2 E2 e2 ru ⟨k, ks, xs, hy, hj, q⟩ => ?_⟩
  subst hy
  rw [rp_key rv]
  obtain ⟨a', vs, ha', f1, f2, hl, f3⟩ := E2.ownD_at hj
  rw [ha] at ha'
  cases ha'
  refine ⟨valV (ks.zip vs) k, DGet.k f2, ?_⟩
  obtain ⟨g1, g2⟩ := f3.getK (ks := ks) (k := k)
  rw [valV_get]
  cases e : SV.getK ks xs k with
  | none =>
    rw [g2 e]
    rw [e] at q
    exact kk _ _ F2 H2 ρ2 E2 (e1.trans e2) ru q
  | some x =>
    obtain ⟨w, hw, rw'⟩ := g1 x e
    rw [hw]
    rw [e] at q
    exact kk _ _ F2 H2 ρ2 E2 (e1.trans e2) rw' q
theorem ws_dputO {j : Nat} (h : WD B K tv ρ fun x ρ1 => (∃ ks xs, ρ1[j]? = some (some (.ownD ks xs))) ∧ WD B K ty ρ1 fun y ρ2 => ∃ k ks xs, y = keyD k ∧ ρ2[j]? = some (some (.ownD ks xs)) ∧ ks.length < lim ∧ Z.nx (ρ2.set j (some (.ownD (putKs ks k) (putXs ks xs k x))))) : WS B K (sDPut (tVar j) ty tv) ρ Z := fun F H σ E D ok =>
  h F H σ E _ fun v x F1 H1 ρ1 E1 e1 rv ⟨⟨ks0, xs0, hj0⟩, q1⟩ => by
    obtain ⟨a, vs0, ha, _⟩ := E1.ownD_at hj0
    refine ⟨.ref a, ha, q1 F1 H1 σ E1 _ fun u y F2 H2 ρ2 E2 e2 ru ⟨k, ks, xs, hy, hj, hz, q⟩ => ?_⟩
    subst hy
    rw [rp_key ru]
    obtain ⟨a', vs, ha', f1, f2, hl, f3⟩ := E2.ownD_at hj
    rw [ha] at ha'
    cases ha'
    have hlv : ks.length = vs.length := by rw [f3.length]; exact hl
    refine ⟨a, _, rfl, DPut.k f2 (by rw [List.length_zip, ← hlv, Nat.min_self]; exact lim_lt hz), ?_⟩
    rw [putK_zip hlv]
    exact ok.nx F2 _ _ _ (E2.writeD hj ha (put_len hl) (f3.put (Rp.mono e2 rv))) (e1.trans e2) q
theorem wd_lenDO {j : Nat} {ks : List Key} {xs : List PyData} (hj : ρ[j]? = some (some (.ownD ks xs))) (q : QD (.int ks.length) ρ) : WD B K (tCB (fun xs H Q => ∃ a kvs, xs = [V.ref a] ∧ H a = some (.dK kvs) ∧ Q (.int kvs.length) H) (tCons (tVar j) tNil)) ρ QD := fun F H σ E QQ kk => by
  obtain ⟨a, vs, ha, f1, f2, hl, f3⟩ := E.ownD_at hj
  refine ⟨.ref a, ha, a, _, rfl, f2, kk _ _ F H ρ E (Ex.refl F) ?_ q⟩
  rw [List.length_zip, f3.length, hl, Nat.min_self]
  exact .int _
/-- the base that guards some new objects -/
def gdH (B : Bs) (H : Hp) (us : List Addr) : Hp := fun a => if a ∈ us then H a else B.H0 a
theorem EnvOk.guard (E : EnvOk B K F H σ ρ) {us : List Addr} (fr : Free B σ ρ us) (lv : ∀ a, a ∈ us → F a = none ∧ ∃ o, H a = some o ∧ ∀ ps, o ≠ .tbl ps) :
    EnvOk ⟨F, gdH B H us, B.pin⟩ K F H σ ρ ∧ ∀ F2 H2 ρ2, EnvOk ⟨F, gdH B H us, B.pin⟩ K F2 H2 σ ρ2 → EnvOk B K F2 H2 σ ρ2 ∧ (∀ a, a ∈ us → F2 a = none ∧ H2 a = H a) ∧ Free B σ ρ2 us := by
  have yes : ∀ a, a ∈ us → gdH B H us a = H a := fun a ha => if_pos ha
  have no : ∀ a, a ∉ us → gdH B H us a = B.H0 a := fun a ha => if_neg ha
  have nof : ∀ i a, SFp σ ρ i a → a ∉ us := fun i a h z => (fr a z).2 i h
  have pinf : ∀ i a, B.pin = some (i, a) → a ∉ us := fun i a e z => by
    obtain ⟨q1, q2⟩ := E.pin i a e
    rcases q2 with ⟨⟨xs, q2⟩, _⟩ | ⟨⟨ks, xs, q2⟩, _⟩
    · exact nof i a ⟨_, _, q2, q1, rfl⟩ z
    · exact nof i a ⟨_, _, q2, q1, rfl⟩ z
  have live : ∀ a, a ∈ us → gdH B H us a ≠ none := fun a ha => by
    obtain ⟨_, o, e, _⟩ := lv a ha
    rw [yes a ha, e]
    exact fun z => nomatch z
  have b0 : ∀ a, gdH B H us a = none → a ∉ us ∧ B.H0 a = none := fun a h => by
    have c : a ∉ us := fun z => live a z h
    exact ⟨c, by rw [← no a c]; exact h⟩
  constructor
  · refine ⟨⟨Ex.refl F, E.fh, fun a o e n m => ?_, fun a h => ?_, fun a h _ => h, E.st.tf, E.st.tab⟩, E.len, E.sl, E.sep, fun i a h => ?_, fun i a e => ?_⟩
    · by_cases c : a ∈ us
      · rw [show (⟨F, gdH B H us, B.pin⟩ : Bs).H0 a = H a from yes a c] at e; exact e
      · rw [show (⟨F, gdH B H us, B.pin⟩ : Bs).H0 a = B.H0 a from no a c] at e; exact E.st.h0 a o e n m
    · by_cases c : a ∈ us
      · obtain ⟨_, o, e, n⟩ := lv a c; exact ntb_live e n
      · rw [show (⟨F, gdH B H us, B.pin⟩ : Bs).H0 a = B.H0 a from no a c] at h; exact E.st.th a h
    · rw [show (⟨F, gdH B H us, B.pin⟩ : Bs).H0 a = B.H0 a from no a (nof i a h)]; exact E.mine i a h
    · rw [show (⟨F, gdH B H us, B.pin⟩ : Bs).H0 a = B.H0 a from no a (pinf i a e)]; exact E.pin i a e
  · intro F2 H2 ρ2 E2
    refine ⟨⟨⟨E.st.f0.trans E2.st.f0, E2.st.fh, fun a o e n m => ?_, fun a h => ?_, fun a h1 h2 => ?_, E2.st.tf, E2.st.tab⟩, E2.len, E2.sl, E2.sep, fun i a h => ?_, fun i a e => ?_⟩, fun a ha => ?_, fun a ha => ⟨(fr a ha).1, fun i h => ?_⟩⟩
    · have c : a ∉ us := fun z => by rw [(fr a z).1] at e; cases e
      exact E2.st.h0 a o ((no a c).trans e) n m
    · have c : a ∉ us := fun z => h (fr a z).1
      exact E2.st.th a fun z => h ((no a c).symm.trans z)
    · have c : a ∉ us := fun z => h2 (fr a z).1
      exact E2.st.nf a (E.st.nf a h1 h2) fun z => h2 ((no a c).symm.trans z)
    · rcases E2.mine i a h with k | k
      · exact .inl (b0 a k).2
      · exact .inr k
    · obtain ⟨q1, q2⟩ := E2.pin i a e
      rw [show (⟨F, gdH B H us, B.pin⟩ : Bs).H0 a = B.H0 a from no a (pinf i a e)] at q2
      exact ⟨q1, q2⟩
    · obtain ⟨k1, o, k2, k3⟩ := lv a ha
      refine ⟨E2.st.nf a k1 (live a ha), ?_⟩
      rw [k2]
      exact E2.st.h0 a o ((yes a ha).trans k2) (fun i z => pinf i a z ha) k3
    · rcases E2.mine i a h with k | k
      · exact live a ha k
      · exact pinf i a k ha
/-- {k: x} -/
theorem we_disp1 (h : ∀ B' : Bs, B'.pin = B.pin → WD B' K ty ρ fun y ρ1 => WD B' K tv ρ1 fun x ρ2 => ∃ k, y = keyD k ∧ Q (.newD [k] [x]) ρ2) : WE B K (tDisp [(ty, tv)]) ρ Q := fun F H σ E QQ kk p hp => by
  have E0 := E.allocO (o := .dK []) hp
  have fr : Free B σ ρ [p] := fun a ha => by rw [List.mem_singleton.mp ha]; exact ⟨E.h0p hp, fun i => E.fr hp i⟩
  have lv : ∀ a, a ∈ [p] → F a = none ∧ ∃ o, upd H p (.dK []) a = some o ∧ ∀ ps, o ≠ .tbl ps := fun a ha => by rw [List.mem_singleton.mp ha]; exact ⟨E.fh.free hp, _, upd_same, (nt_dK _).1⟩
  obtain ⟨g1, g2⟩ := E0.guard fr lv
  refine h ⟨F, gdH B (upd H p (.dK [])) [p], B.pin⟩ rfl F _ σ g1 _ fun u y F1 H1 ρ1 E1 e1 ru q1 => q1 F1 H1 σ E1 _ fun v x F2 H2 ρ2 E2 e2 rv ⟨k, hy, q⟩ => ?_
  subst hy
  rw [rp_key ru]
  obtain ⟨E3, keep, fr3⟩ := g2 F2 H2 ρ2 E2
  obtain ⟨f1, f2⟩ := keep p List.mem_cons_self
  rw [upd_same] at f2
  refine ⟨f2, [(k, v)], rfl, (show 1 ≤ 15 by decide), ?_⟩
  have E4 := E3.poke (p := p) (o := .dK [(k, v)]) f1 (fr3 p List.mem_cons_self).1 (fr3 p List.mem_cons_self).2 (fun u e => by rw [f2] at e; cases e; exact nt_dK _)
  refine kk _ (.newD [k] [x]) F2 _ ρ2 E4 (e1.trans e2) ⟨p, [v], rfl, f1, ?_, rfl, .cons rv .nil, (fr3 p List.mem_cons_self).1, (fr3 p List.mem_cons_self).2⟩ q
  exact upd_same
end
end SV

set_option maxHeartbeats 1000000
namespace SV
open PySem PySem.Spec L2 PyProof.Rows
open Evl (Ex)
variable [Tbs]
/-! ### a < b < c of ints -/
section
variable {B : Bs} {K : Fr} {ρ : En} {ta tb tc te : TE} {Q : R → En → Prop} {QD : PyData → En → Prop} {Z : Zs}
theorem wd_chain {p q : Int → Int → Bool} (h : WD B K ta ρ fun x ρ1 => ∃ i, x = .int i ∧ WD B K tb ρ1 fun y ρ2 => ∃ j, y = .int j ∧ (p i j = true → WD B K tc ρ2 fun z ρ3 => ∃ k, z = .int k ∧ QD (.bool (q j k)) ρ3) ∧ (p i j = false → QD (.bool false) ρ2)) :
    WD B K (tChain (rI0 fun i j => .bl (p i j)) (rI0 fun i j => .bl (q i j)) ta tb tc) ρ QD := fun F H σ E QQ k =>
  h F H σ E _ fun v x F1 H1 ρ1 E1 e1 rv ⟨i, hx, q1⟩ => q1 F1 H1 σ E1 _ fun u y F2 H2 ρ2 E2 e2 ru ⟨j, hy, q2, q3⟩ => by
    subst hx hy
    cases rv; cases ru
    refine ⟨i, j, rfl, rfl, p i j, rfl, ?_⟩
    cases c : p i j with
    | true =>
      show tc σ H2 _
      exact q2 c F2 H2 σ E2 _ fun w z F3 H3 ρ3 E3 e3 rw' ⟨l, hz, q4⟩ => by
        subst hz
        cases rw'
        exact ⟨j, l, rfl, rfl, k _ _ F3 H3 ρ3 E3 (e1.trans (e2.trans e3)) (.bl _) q4⟩
    | false =>
      show QQ (.bl false) H2
      exact k _ _ F2 H2 ρ2 E2 (e1.trans e2) (.bl _) (q3 c)
/-! ### text.split(sep) -/
abbrev rSplit : V → List V → Hp → VK → Prop := fun x xs H Q => ∃ a b, x = .str a ∧ xs = [.str b] ∧ (b.length == 0) = false ∧ a.length + 2 ≤ sizeLine ∧ rNewStrs (Txt.split a b) H Q
theorem we_split (h : WD B K ta ρ fun x ρ1 => ∃ a, x = .str a ∧ WD B K tb ρ1 fun y ρ2 => ∃ b, y = .str b ∧ ((b.length == 0) = false ∧ a.length < lim) ∧ Q (.new ((Txt.split a b).map .str)) ρ2) : WE B K (tM1 rSplit ta tb) ρ Q := fun F H σ E QQ k =>
  h F H σ E _ fun v x F1 H1 ρ1 E1 e1 rv ⟨a, hx, q1⟩ => by
    subst hx
    cases rv
    refine ⟨⟨a, rfl⟩, q1 F1 H1 σ E1 _ fun u y F2 H2 ρ2 E2 e2 ru ⟨b, hy, ⟨hb, ha⟩, q2⟩ => ?_⟩
    subst hy
    cases ru
    refine ⟨a, b, rfl, rfl, hb, Nat.le_trans (show a.length + 2 ≤ 1000002 by unfold lim at ha; omega) (by decide), fun p hp => ?_⟩
    obtain ⟨E3, r3⟩ := new_ok E2 hp (RpA.of_strs (K := K) (F := F2) (Txt.split a b))
    exact k _ _ F2 _ ρ2 E3 (e1.trans e2) r3 q2
end
/-! ### sorted(xs) of tuples of ints: by the first where they differ -/
def lexI : List Int → List Int → Bool
  | [], [] => false
  | [], _ :: _ => true
  | _ :: _, [] => false
  | x :: r, y :: t => if x = y then lexI r t else decide (x < y)
theorem lexI_asym : ∀ a b : List Int, lexI a b = true → lexI b a = false
  | [], [], h => by simp [lexI] at h
  | [], _ :: _, _ => rfl
  | _ :: _, [], h => by simp [lexI] at h
  | x :: r, y :: t, h => by
    unfold lexI at h ⊢
    by_cases c : x = y
    · rw [if_pos c] at h
      rw [if_pos c.symm]
      exact lexI_asym r t h
    · rw [if_neg c, decide_eq_true_eq] at h
      rw [if_neg fun z => c z.symm, decide_eq_false_iff_not]
      omega
theorem lexI_eq : ∀ a b : List Int, lexI a b = false → lexI b a = false → a = b
  | [], [], _, _ => rfl
  | [], _ :: _, h, _ => by simp [lexI] at h
  | _ :: _, [], _, h => by simp [lexI] at h
  | x :: r, y :: t, h1, h2 => by
    unfold lexI at h1 h2
    by_cases c : x = y
    · rw [if_pos c] at h1
      rw [if_pos c.symm] at h2
      rw [c, lexI_eq r t h1 h2]
    · rw [if_neg c, decide_eq_false_iff_not] at h1
      rw [if_neg fun z => c z.symm, decide_eq_false_iff_not] at h2
      omega
theorem lexI_tr : ∀ a b c : List Int, lexI b a = false → lexI c b = false → lexI c a = false
  | [], [], c, _, h2 => h2
  | [], _ :: _, [], _, _ => rfl
  | [], _ :: _, _ :: _, _, _ => rfl
  | _ :: _, [], _, h1, _ => by simp [lexI] at h1
  | x :: r, y :: t, [], _, h2 => by simp [lexI] at h2
  | x :: r, y :: t, z :: u, h1, h2 => by
    unfold lexI at h1 h2 ⊢
    by_cases c1 : y = x
    · rw [if_pos c1] at h1
      by_cases c2 : z = y
      · rw [if_pos c2] at h2
        rw [if_pos (c2.trans c1)]
        exact lexI_tr r t u h1 h2
      · rw [if_neg c2] at h2
        rw [if_neg fun e => c2 (e.trans c1.symm), ← c1]
        exact h2
    · rw [if_neg c1, decide_eq_false_iff_not] at h1
      by_cases c2 : z = y
      · rw [if_neg fun e => c1 (c2.symm.trans e), c2, decide_eq_false_iff_not]
        exact h1
      · rw [if_neg c2, decide_eq_false_iff_not] at h2
        rw [if_neg (by omega), decide_eq_false_iff_not]
        omega
theorem lexI_swo {α : Type} (k : α → List Int) : SrtO.Swo fun v u => lexI (k v) (k u) :=
  ⟨fun x y h => lexI_asym _ _ h, fun x y z h1 h2 => lexI_tr _ _ _ h1 h2⟩
section
variable {prog : Program} {w : World} {A : Around} {E : Value → Shared → Prop} {s : Shared}
theorem kat_ints {b fin : Bool} {Q : Bool → Shared → Prop} : ∀ {us ws : List Value} {as bs : List Int} (i : Nat), IntsAre us as → IntsAre ws bs → fin = decide (us.length < ws.length) → Q (lexI as bs) s → PySem.W.KatLex prog w A b fin Q (us.zip ws) i s
  | _, _, _, _, i, .nil, .nil, hf, h => by
    have e : fin = false := by rw [hf]; rfl
    subst e
    exact PySem.W.kat_nil h
  | _, _, _, _, i, .nil, .cons n t r, hf, h => by
    have e : fin = true := by rw [hf]; exact decide_eq_true (Nat.succ_pos _)
    subst e
    exact PySem.W.kat_nil h
  | _, _, _, _, i, .cons n t r, .nil, hf, h => by
    have e : fin = false := by rw [hf]; exact decide_eq_false (Nat.not_lt_zero _)
    subst e
    exact PySem.W.kat_nil h
  | _, _, _, _, i, .cons n t r, .cons m u r2, hf, h => by
    refine PySem.W.kat_cons (wpAny_eqBool_int ?_)
    refine PySem.W.kat_go (fun e => PySem.W.kat_yes ?_) (fun e => PySem.W.kat_no ?_)
    · have hnm : n = m := by simpa using e
      subst hnm
      refine kat_ints (i + 1) r r2 (by rw [hf]; simp only [List.length_cons, Nat.add_lt_add_iff_right]) ?_
      unfold lexI at h
      rw [if_pos rfl] at h
      exact h
    · have hnm : ¬ n = m := by simpa using e
      unfold lexI at h
      rw [if_neg hnm] at h
      exact oneLt_any_int h
/-- v is a tuple of these ints -/
def IsTI (h : Heap) (v : Value) (ns : List Int) : Prop := ∃ a o us n, v = .ref a ∧ h.get? a = some o ∧ o.cls = .type "tuple" ∧ o.data = .seq us n ∧ IntsAre us.toList ns
theorem IsTI.keeps {h h' : Heap} {v : Value} {ns : List Int} (p : IsTI h v ns) (k : ∀ b o, h.get? b = some o → o.cls = .type "tuple" → h'.get? b = some o) : IsTI h' v ns := by
  obtain ⟨a, o, us, n, e, ho, hc, hd, hi⟩ := p
  exact ⟨a, o, us, n, e, k _ _ ho hc, hc, hd, hi⟩
theorem ti_cmp {vs : List Value} {k : Value → List Int} (hp : ∀ v ∈ vs, IsTI s.heap v (k v)) : SrtO.Cmp prog w A s (tuples' true) (fun p => p.1 ∈ vs) (SrtO.lt2 fun v u => lexI (k v) (k u)) := by
  intro p q hm hm'
  have h1 := hp _ hm
  have h2 := hp _ hm'
  show wpAny (model prog w) A (keyLt' (tuples' true) p.1 q.1) (fun r s' => s' = s ∧ r = lexI (k p.1) (k q.1)) (fun _ _ => False) s
  generalize k p.1 = as at h1 ⊢
  generalize k q.1 = bs at h2 ⊢
  obtain ⟨a, o, us, n, e, ho, hc, hd, hi⟩ := h1
  obtain ⟨a', o', us', n', e', ho', hc', hd', hi'⟩ := h2
  rw [e, e']
  exact PySem.W.kat_lt ho hd ho' hd' (kat_ints 0 hi hi' (by rw [Array.length_toList, Array.length_toList]) ⟨rfl, rfl⟩)
theorem ti_firsts {h : Heap} : ∀ {vs : List Value}, (∀ v ∈ vs, ∃ n ns, IsTI h v (n :: ns)) → ∃ fs : List Value, PySem.W.KatTups h vs fs ∧ fs.length = vs.length ∧ ∀ f ∈ fs, ∃ x t, f = Value.int x t
  | [], _ => ⟨[], PySem.W.KatTups.nil, rfl, fun _ hm => by simp at hm⟩
  | v :: vs, hp => by
    obtain ⟨fs, h1, h2, h3⟩ := ti_firsts (vs := vs) fun v' hm => hp v' (List.mem_cons_of_mem _ hm)
    obtain ⟨x, ns, a, o, us, n, e, ho, hc, hd, hi⟩ := hp v (List.mem_cons_self ..)
    subst e
    generalize hl : us.toList = l at hi
    cases hi with
    | cons _ t r =>
      refine ⟨.int x t :: fs, PySem.W.KatTups.cons ho hc hd (by rw [← Array.getElem?_toList, hl]; rfl) h1, by rw [List.length_cons, List.length_cons, h2], fun f hm => ?_⟩
      rcases List.mem_cons.mp hm with rfl | hm
      · exact ⟨x, t, rfl⟩
      · exact h3 f hm
theorem ti_sortable {a : Addr} {vs : List Value} {k : Value → List Int} (h0 : 0 < vs.length) (hp : ∀ v ∈ vs, IsTI s.heap v (k v)) (hk : ∀ v ∈ vs, k v ≠ []) (ha : ∀ o, s.heap.get? a = some o → o.cls ≠ .type "tuple") : SrtO.SortableO prog w A s a vs fun v u => lexI (k v) (k u) := by
  intro h' keep
  have hp' : ∀ v ∈ vs, IsTI h' v (k v) := fun v hm => (hp v hm).keeps fun b o e c => keep b o (fun z => by subst z; exact ha o e c) e
  obtain ⟨fs, h1, h2, h3⟩ := ti_firsts fun v hm => by
    have e := hp' v hm
    have n := hk v hm
    cases q : k v with
    | nil => exact absurd q n
    | cons x ns => rw [q] at e; exact ⟨x, ns, e⟩
  refine ⟨tuples' true, fun Q E hq => ?_, ti_cmp hp'⟩
  refine PySem.W.kat_kind (T := .type "int") h1 (by omega) (fun f hm => ?_) (by rfl) ?_
  · obtain ⟨x, t, rfl⟩ := h3 f hm
    exact PySem.W.Looks.now
  · have e : (Value.type "int" != Value.type "tuple") = true := by first | decide +kernel | rfl | decide
    rw [e]
    exact hq
theorem sorted_ti {l : Addr} {vs : List Value} {k : Value → List Int} {Q : Value → Shared → Prop} (hl : s.heap.IsList l vs.toArray) (hz : vs.length ≤ sizeLine) (hp : ∀ v ∈ vs, IsTI s.heap v (k v)) (hk : ∀ v ∈ vs, k v ≠ [])
    (h : ∀ (h' : Heap) (d : Addr) (out : List Value), SrtO.Srtd (fun v u => lexI (k v) (k u)) out → out.Perm vs → (∀ b o, s.heap.get? b = some o → h'.get? b = some o) → s.heap.objs.size ≤ d → (∃ n, h'.get? d = some (seqObj "list" out.toArray n)) → Q (.ref d) { s with heap := h' }) :
    wpAny (model prog w) A (call (.builtin "sorted") [.ref l]) Q E s := by
  refine SrtO.sorted_ord (lexI_swo k) hl hz (fun h2 h₁ a ha kk => ?_) fun out hs hb => ?_
  · refine ti_sortable (s := { s with heap := h₁ }) (by omega) (fun v hm => (hp v hm).keeps fun b o e _ => (kk b o e).2) hk fun o e => ?_
    have e' : some o = some (seqObj "list" vs.toArray 0) := e.symm.trans ha
    cases e'
    intro c
    exact absurd (Value.type.inj c) (by decide)
  · exact h _ _ out hs hb.perm (fun b o e => sortedAll_old e) (Nat.le_succ _) (sortedAll_at s.heap vs out.toArray)
end
/-- sorted(xs): xs a list of tuples of ints -/
def rSortTI (K : Fr) : List V → Hp → VK → Prop := fun vs H Q => ∃ (a : Addr) (ps : List (V × List Int)), vs = [V.ref a] ∧ SqL K H a (ps.map (·.1)) ∧ (∀ p ∈ ps, p.2 ≠ [] ∧ ∃ t, p.1 = V.ref t ∧ SqT K H t (p.2.map V.int)) ∧
  ∀ (qs : List (V × List Int)) p, qs.Perm ps → qs.Pairwise (fun x y => lexI y.2 x.2 = false) → H p = none → Q (.ref p) (upd H p (.lst (qs.map (·.1))))
noncomputable def keyOf (ps : List (V × List Int)) (x : V) : List Int := @dite _ (∃ ns, (x, ns) ∈ ps) (Classical.propDecidable _) (fun h => Classical.choose h) (fun _ => [])
theorem keyOf_in {ps : List (V × List Int)} {p : V × List Int} (h : p ∈ ps) : (p.1, keyOf ps p.1) ∈ ps := by
  have e : ∃ ns, (p.1, ns) ∈ ps := ⟨p.2, h⟩
  unfold keyOf
  rw [dif_pos e]
  exact Classical.choose_spec e
theorem map_int_inj : ∀ {ns ms : List Int}, ns.map V.int = ms.map V.int → ns = ms
  | [], [], _ => rfl
  | [], _ :: _, h => by simp at h
  | _ :: _, [], h => by simp at h
  | n :: ns, m :: ms, h => by
    rw [List.map_cons, List.map_cons] at h
    obtain ⟨h1, h2⟩ := List.cons.inj h
    cases h1
    rw [map_int_inj h2]
theorem cr_sortTI {X : Cx} : CallR X (.builtin "sorted") (rSortTI X.K) := by
  intro pins s σ H vs us Q I r h
  obtain ⟨a, ps, rfl, hs, hx, q⟩ := h
  obtain ⟨its, rv, hl, hz⟩ := I.list hs
  obtain ⟨u, rfl, ru⟩ := vals1 r
  obtain rfl : u = Value.ref a := ru
  obtain ⟨e1, e2⟩ := refs_back rv fun x m => by
    obtain ⟨p, hp, rfl⟩ := List.mem_map.mp m
    obtain ⟨_, t, e, _⟩ := hx p hp
    exact ⟨t, e⟩
  have kk : ∀ p, p ∈ ps → keyOf ps p.1 = p.2 := fun p hp => by
    obtain ⟨_, t, e, ht⟩ := hx p hp
    obtain ⟨_, t', e', ht'⟩ := hx _ (keyOf_in hp)
    rw [show (p.1, keyOf ps p.1).1 = p.1 from rfl, e] at e'
    cases e'
    exact map_int_inj (I.tuple_inj ht' ht)
  let k : Value → List Int := fun u => keyOf ps (backV u)
  have back : ∀ v, v ∈ its → ∃ t, v = Value.ref t ∧ (V.ref t, k v) ∈ ps ∧ k v ≠ [] ∧ SqT X.K H t ((k v).map V.int) := fun v hv => by
    obtain ⟨t, rfl⟩ := e2 v hv
    have hm : V.ref t ∈ ps.map (·.1) := by rw [e1]; exact List.mem_map.mpr ⟨_, hv, rfl⟩
    obtain ⟨p, hp, ep⟩ := List.mem_map.mp hm
    obtain ⟨hk, t', e, ht⟩ := hx p hp
    have e3 := kk p hp
    rw [ep] at e e3
    cases e
    have e4 : k (.ref t) = p.2 := e3
    rw [e4]
    exact ⟨t, rfl, by rw [← ep]; exact hp, hk, ht⟩
  refine sorted_ti (k := k) hl.isList (by rw [← rv.length]; exact hz) (fun v hv => ?_) (fun v hv => ?_) fun h' d out h1 h2 kp hd hn => ?_
  · obtain ⟨t, e, hm, hk, ht⟩ := back v hv
    obtain ⟨its2, r2, ⟨o, ho, hc, n, hdt⟩, _⟩ := I.tuple ht
    exact ⟨t, o, its2.toArray, n, e, ho, hc, hdt, by simpa using r2.ints⟩
  · obtain ⟨t, e, hm, hk, ht⟩ := back v hv
    exact hk
  · have h3 : ∀ u ∈ out, ∃ a, u = Value.ref a := fun u hu => e2 u (h2.mem_iff.mp hu)
    obtain ⟨n, hn⟩ := hn
    have e5 : its.map (fun u => (backV u, k u)) = ps := by
      have e6 : its.map (fun u => (backV u, k u)) = (its.map backV).map fun x => (x, keyOf ps x) := by rw [List.map_map]; rfl
      rw [e6, ← e1, List.map_map]
      have e7 : ps.map ((fun x => (x, keyOf ps x)) ∘ fun p => p.1) = ps.map id := List.map_congr_left fun p hp => by
        show (p.1, keyOf ps p.1) = p
        rw [kk p hp]
      rw [e7, List.map_id]
    have hb : (out.map fun u => (backV u, k u)).Perm ps := by
      rw [← e5]
      exact h2.map _
    have e8 : (out.map fun u => (backV u, k u)).map (·.1) = out.map backV := by rw [List.map_map]; rfl
    have hq := q (out.map fun u => (backV u, k u)) d hb (by
      rw [List.pairwise_map]
      exact h1) (I.hok.fresh hd)
    rw [e8] at hq
    refine ⟨.ref d, upd H d (.lst (out.map backV)), I.laid (t' := s.toks) kp hd ⟨?_, out, n, vals_back h3, hn⟩, rfl, hq⟩
    have e9 := hb.length_eq
    rw [List.length_map] at e9 hz ⊢
    rw [e9]
    exact hz
theorem k_sortTI {X : Cx} (K : Fr) (h : X.K = K := by rfl) : CallR X (.builtin "sorted") (rSortTI K) := h ▸ cr_sortTI
theorem k_sortI {X : Cx} (K : Fr) (h : X.K = K := by rfl) : CallR X (.builtin "sorted") (rSortedI K) := h ▸ cr_sortedI
/-- a tuple of ints -/
def tiD (ns : List Int) : PyData := .tuple (ns.map .int)
theorem RpA.split_ti {K : Fr} {F : Hp} : ∀ {vs : List V} {ts : List (List Int)}, RpA K F vs (ts.map tiD) → ∃ ps : List (V × List Int), ps.map (·.1) = vs ∧ ps.map (·.2) = ts ∧ ∀ p, p ∈ ps → Rp K F p.1 (tiD p.2)
  | [], [], .nil => ⟨[], rfl, rfl, fun _ h => nomatch h⟩
  | v :: vs, t :: ts, .cons h r => by
    obtain ⟨ps, h1, h2, h3⟩ := RpA.split_ti r
    exact ⟨(v, t) :: ps, by rw [List.map_cons, h1], by rw [List.map_cons, h2], fun p hp => (List.mem_cons.mp hp).elim (fun e => by subst e; exact h) (h3 p)⟩
theorem RpA.of_ps {K : Fr} {F : Hp} : ∀ {ps : List (V × List Int)}, (∀ p, p ∈ ps → Rp K F p.1 (tiD p.2)) → RpA K F (ps.map (·.1)) ((ps.map (·.2)).map tiD)
  | [], _ => .nil
  | p :: ps, h => .cons (h p List.mem_cons_self) (RpA.of_ps fun q hq => h q (List.mem_cons_of_mem _ hq))
section
variable {B : Bs} {K : Fr} {ρ : En} {ta te : TE} {Q : R → En → Prop}
/-- a is no later than b -/
def leI (a b : List Int) : Prop := lexI b a = false
theorem we_sortTI (h : WD B K te ρ fun x ρ1 => ∃ ts : List (List Int), x = .list (ts.map tiD) ∧ (∀ t, t ∈ ts → t ≠ []) ∧ ∀ ts' : List (List Int), ts'.Perm ts → ts'.Pairwise leI → Q (.new (ts'.map tiD)) ρ1) : WE B K (tCB (rSortTI K) (tCons te tNil)) ρ Q := fun F H σ E QQ k =>
  h F H σ E _ fun v x F1 H1 ρ1 E1 e1 rv ⟨ts, hx, hne, q⟩ => by
    subst hx
    cases rv with
    | @lst a vs xs ha ra =>
    obtain ⟨ps, h1, h2, h3⟩ := ra.split_ti
    refine ⟨a, ps, rfl, .inl (.inl (by rw [h1]; exact E1.fh _ _ ha)), fun p hp => ⟨hne _ (by rw [← h2]; exact List.mem_map.mpr ⟨p, hp, rfl⟩), ?_⟩, fun qs p pm pw hp => ?_⟩
    · have r := h3 p hp
      generalize p.1 = v at r ⊢
      cases r with
      | @tup t us ys ht rt =>
        have e := rt.ints
        subst e
        exact ⟨t, rfl, E1.fh.stt ht⟩
    · have h4 : ∀ p, p ∈ qs → Rp K F1 p.1 (tiD p.2) := fun p hp => h3 p (pm.mem_iff.mp hp)
      obtain ⟨E2, r2⟩ := new_ok E1 hp (RpA.of_ps h4)
      exact k _ _ F1 _ ρ1 E2 e1 r2 (q (qs.map (·.2)) (by rw [← h2]; exact pm.map _) (by rw [List.pairwise_map]; exact pw))
theorem we_sortI (h : WD B K te ρ fun x ρ1 => ∃ ns : List Int, x = .list (ns.map .int) ∧ ∀ ns' : List Int, ns'.Perm ns → ns'.Pairwise (· ≤ ·) → Q (.new (ns'.map .int)) ρ1) : WE B K (tCB (rSortedI K) (tCons te tNil)) ρ Q := fun F H σ E QQ k =>
  h F H σ E _ fun v x F1 H1 ρ1 E1 e1 rv ⟨ns, hx, q⟩ => by
    subst hx
    cases rv with
    | @lst a vs xs ha ra =>
    have e := ra.ints
    subst e
    refine ⟨a, ns, rfl, .inl (.inl (E1.fh _ _ ha)), fun ns' p pm pw hp => ?_⟩
    obtain ⟨E2, r2⟩ := new_ok E1 hp (RpA.of_ints (K := K) (F := F1) ns')
    exact k _ _ F1 _ ρ1 E2 e1 r2 (q ns' pm pw)
end
/-! ### for i, x in enumerate(xs); for x, y in zip(xs, ys) -/
def enD {α : Type} (f : α → PyData) (p : Nat × α) : PyData := .tuple [.int p.1, f p.2]
def enL {α : Type} (as : List α) : List (Nat × α) := (List.range as.length).zip as
theorem enL_at {α : Type} {as : List α} {i : Nat} {p : Nat × α} (h : (enL as)[i]? = some p) : p.1 = i ∧ as[i]? = some p.2 := by
  unfold enL at h
  rw [List.getElem?_zip_eq_some] at h
  obtain ⟨h1, h2⟩ := h
  have hi := (List.getElem?_eq_some_iff.mp h1).1
  rw [List.length_range] at hi
  rw [List.getElem?_range hi] at h1
  exact ⟨(Option.some.inj h1).symm, h2⟩
theorem enL_len {α : Type} {as : List α} : (enL as).length = as.length := by
  unfold enL
  rw [List.length_zip, List.length_range, Nat.min_self]
theorem enL_in {α : Type} {as : List α} {pre post : List (Nat × α)} {p : Nat × α} (h : enL as = pre ++ p :: post) : p.1 = pre.length ∧ as[pre.length]? = some p.2 ∧ pre = enL (as.take pre.length) := by
  have e : (enL as)[pre.length]? = some p := by rw [h, List.getElem?_append_right (Nat.le_refl _), Nat.sub_self]; rfl
  obtain ⟨h1, h2⟩ := enL_at e
  refine ⟨h1, h2, ?_⟩
  have hl := (List.getElem?_eq_some_iff.mp h2).1
  have e2 : (enL as).take pre.length = pre := by rw [h, List.take_left]
  have key : ∀ m, m ≤ as.length → (enL as).take m = enL (as.take m) := fun m hm => by
    unfold enL
    rw [List.zip_eq_zipWith, List.zip_eq_zipWith, List.take_zipWith, List.length_take, List.take_range, Nat.min_eq_left hm]
  rw [← key pre.length (Nat.le_of_lt hl), e2]
def zpD {α β : Type} (f : α → PyData) (g : β → PyData) (p : α × β) : PyData := .tuple [f p.1, g p.2]
section
variable {B : Bs} {K : Fr} {ρ : En} {ta tb te : TE} {Q : R → En → Prop} {Z : Zs}
theorem pair_new {F H : Hp} {σ : L2.St} (E : EnvOk B K F H σ ρ) {T : Addr} {x y : V} {d e : PyData} (hT : H T = none) (hx : Rp K F x d) (hy : Rp K F y e) : ∃ F', EnvOk B K F' (upd H T (.tup [x, y])) σ ρ ∧ Ex F F' ∧ Rp K F' (.ref T) (.tuple [d, e]) := by
  obtain ⟨E2, e2⟩ := E.alloc (o := .tup [x, y]) hT
  exact ⟨_, E2, e2, .tup (.inl (.inl upd_same)) (.cons (Rp.mono e2 hx) (.cons (Rp.mono e2 hy) .nil))⟩
theorem ws_forEn {α : Type} {g : TG} {tS : TS} (f : α → PyData) (h : WD B K te ρ fun x ρ1 => ∃ as : List α, x = .list (as.map f) ∧ Loop B K g tS (enD f) (enL as) ρ1 Z) : WS B K (tFor (iEnum K (tCons te tNil)) g tS) ρ Z := fun F H σ E D ok =>
  h F H σ E _ fun v x F1 H1 ρ1 E1 e1 rv ⟨as, hx, I, i0, is, id⟩ => by
    subst hx
    cases rv with
    | @lst a vs xs ha ra =>
    have hl : vs.length = as.length := by rw [ra.length, List.length_map]
    have sq : ∀ {F2 H2 : Hp}, Ex F1 F2 → Ex F2 H2 → SqL K H2 a vs := fun e fh => .inl (.inl (fh _ _ (e _ _ ha)))
    refine ⟨a, vs, rfl, .inl (.inl (E1.fh _ _ ha)), loop_gen (f := enD f) (as := enL as) (fun _ => True) E1 e1 ok (fun i p F2 H2 σ2 ρ2 ea E2 e2 _ => ?_) (fun i F2 H2 σ2 ρ2 hi E2 e2 _ => ⟨vs, sq e2 E2.fh, by rw [enL_len] at hi; omega⟩) (fun i p F2 H2 σ2 ρ2 y H' ea E2 e2 _ hy => ?_) I (fun _ _ _ => trivial) i0 is id⟩
    · obtain ⟨_, h2⟩ := enL_at ea
      obtain ⟨w, hw, _⟩ := at_map' ra h2
      exact ⟨vs, w, sq e2 E2.fh, hw⟩
    · obtain ⟨h1, h2⟩ := enL_at ea
      obtain ⟨T, w, rfl, hT, rfl, hw⟩ := hy
      unfold enD
      rw [h1]
      exact pair_new E2 hT (.int _) (Rp.mono e2 (at_map ra h2 (hw vs (sq e2 E2.fh))))
theorem ws_forZip {α β : Type} {g : TG} {tS : TS} (f : α → PyData) (f2 : β → PyData) (h : WD B K ta ρ fun x ρ1 => ∃ as : List α, x = .list (as.map f) ∧ WD B K tb ρ1 fun y ρ2 => ∃ bs : List β, y = .list (bs.map f2) ∧ Loop B K g tS (zpD f f2) (as.zip bs) ρ2 Z) : WS B K (tFor (iZip K (tCons ta (tCons tb tNil))) g tS) ρ Z := fun F H σ E D ok =>
  h F H σ E _ fun v x F1 H1 ρ1 E1 e1 rv ⟨as, hx, q⟩ => q F1 H1 σ E1 _ fun u y F3 H3 ρ3 E3 e3 ru ⟨bs, hy, I, i0, is, id⟩ => by
    subst hx hy
    have rv' := Rp.mono e3 rv
    cases rv' with
    | @lst a vs xs ha ra =>
    cases ru with
    | @lst b us ys hb rb =>
    have hl : vs.length = as.length := by rw [ra.length, List.length_map]
    have hl2 : us.length = bs.length := by rw [rb.length, List.length_map]
    have sq : ∀ {F2 H2 : Hp}, Ex F3 F2 → Ex F2 H2 → SqL K H2 a vs := fun e fh => .inl (.inl (fh _ _ (e _ _ ha)))
    have sq2 : ∀ {F2 H2 : Hp}, Ex F3 F2 → Ex F2 H2 → SqL K H2 b us := fun e fh => .inl (.inl (fh _ _ (e _ _ hb)))
    refine ⟨a, b, vs, us, rfl, .inl (.inl (E3.fh _ _ ha)), .inl (.inl (E3.fh _ _ hb)), loop_gen (f := zpD f f2) (as := as.zip bs) (fun _ => True) E3 (e1.trans e3) ok (fun i p F2 H2 σ2 ρ2 ea E2 e2 _ => ?_) (fun i F2 H2 σ2 ρ2 hi E2 e2 _ => ⟨vs, us, sq e2 E2.fh, sq2 e2 E2.fh, by rw [List.length_zip] at hi; omega⟩) (fun i p F2 H2 σ2 ρ2 y H' ea E2 e2 _ hy => ?_) I (fun _ _ _ => trivial) i0 is id⟩
    · rw [List.getElem?_zip_eq_some] at ea
      obtain ⟨w, hw, _⟩ := at_map' ra ea.1
      obtain ⟨w2, hw2, _⟩ := at_map' rb ea.2
      exact ⟨vs, us, w, w2, sq e2 E2.fh, sq2 e2 E2.fh, hw, hw2⟩
    · rw [List.getElem?_zip_eq_some] at ea
      obtain ⟨T, w, w2, rfl, hT, rfl, hw, hw2⟩ := hy
      exact pair_new E2 hT (Rp.mono e2 (at_map ra ea.1 (hw vs (sq e2 E2.fh)))) (Rp.mono e2 (at_map rb ea.2 (hw2 us (sq2 e2 E2.fh))))
end
/-! ### own things that are only looked at -/
section
variable {B : Bs} {K : Fr} {ρ : En} {ta tb te to : TE} {Q : R → En → Prop} {QD : PyData → En → Prop} {Z : Zs}
theorem wd_isiP (t : Ty) (h : WE B K to ρ fun r ρ1 => ∃ a, r = .raw (.ref a) ∧ (∃ (j : Nat) (t0 : OT) (π : List Nat) (ts : List OT), ρ1[j]? = some (some (.deep t0)) ∧ t0.at π = some (.lst a ts)) ∧ QD (.bool (isTy .list t)) ρ1) :
    WD B K (tCB (rIsi K) (tCons to (tCons (tC (.ty t.name)) tNil))) ρ QD := fun F H σ E QQ k =>
  h F H σ E _ fun v r F1 H1 ρ1 E1 e1 rv ⟨a, hr, ⟨j, t0, π, ts, hj, hat⟩, q⟩ => by
    subst hr
    cases (show v = .ref a from rv)
    obtain ⟨_, vs, hv, _⟩ := E1.list_at hj hat
    exact ⟨.ref a, .ty t.name, .type "list", .type t.name, isTy .list t, rfl, .ty _, .base (.lst hv), kit_ok .list t, k _ _ F1 H1 ρ1 E1 e1 (.bl _) q⟩
theorem wd_isiPl (h : WE B K to ρ fun r ρ1 => ∃ a, r = .raw (.ref a) ∧ (∃ (j : Nat) (t0 : OT) (π : List Nat) (ts : List OT), ρ1[j]? = some (some (.deep t0)) ∧ t0.at π = some (.lst a ts)) ∧ QD (.bool true) ρ1) :
    WD B K (tCB (rIsi K) (tCons to (tCons (tC (.ty "list")) tNil))) ρ QD := wd_isiP .list h
theorem wd_isiT {j : Nat} {a : Addr} {ts : List OT} (hj : ρ[j]? = some (some (.deep (.lst a ts)))) (q : QD (.bool true) ρ) :
    WD B K (tCB (rIsi K) (tCons (tVar j) (tCons (tC (.ty "list")) tNil))) ρ QD := wd_isiP .list (we_ptr hj ⟨a, rfl, ⟨j, _, [], ts, hj, rfl⟩, q⟩)
theorem wd_isiO {j : Nat} {xs : List PyData} (hj : ρ[j]? = some (some (.own xs))) (q : QD (.bool true) ρ) :
    WD B K (tCB (rIsi K) (tCons (tVar j) (tCons (tC (.ty "list")) tNil))) ρ QD := fun F H σ E QQ k => by
  obtain ⟨a, vs, e, _, k2, k3⟩ := E.own_at hj
  exact ⟨.ref a, e, .ref a, .ty "list", .type "list", .type "list", isTy .list .list, rfl, .ty _, .base (.lst k2), kit_ok .list .list, k _ _ F H ρ E (Ex.refl F) (.bl _) q⟩
theorem OtA.swap {F F' H H' : Hp} (e : Ex F F') : ∀ {ts : List OT} {vs ws : List V}, OtA K F H vs ts → OtA K F' H' ws ts → OtA K F' H' vs ts
  | [], _, _, .nil, .nil => .nil
  | .d _ :: _, _, _, .cons (.d h) r, .cons _ r2 => .cons (.d (Rp.mono e h)) (OtA.swap e r r2)
  | .lst _ _ :: _, _, _, .cons (.lst _ _ _) r, .cons (.lst a b c) r2 => .cons (.lst a b c) (OtA.swap e r r2)
  | .tup _ _ :: _, _, _, .cons (.tup _ _ _) r, .cons (.tup a b c) r2 => .cons (.tup a b c) (OtA.swap e r r2)
  | .dct _ _ _ :: _, _, _, .cons (.dct _ _ _ _) r, .cons (.dct a b l c) r2 => .cons (.dct a b l c) (OtA.swap e r r2)
theorem OtA.drop {F H : Hp} : ∀ {ts : List OT} {vs : List V} (n : Nat), OtA K F H vs ts → OtA K F H (vs.drop n) (ts.drop n)
  | _, _, 0, r => r
  | [], _, _ + 1, .nil => .nil
  | _ :: _, _, n + 1, .cons _ r => OtA.drop n r
theorem OtA.cut {F H : Hp} {vs : List V} {ts : List OT} (r : OtA K F H vs ts) (lo hi : Option Int) : OtA K F H (cutV vs lo hi) (cutD ts lo hi) := by
  unfold cutV cutD
  rw [r.length]
  exact (r.drop _).take _
theorem areD_sub {ts : List OT} (h : areD ts = true) : ∀ us : List OT, (∀ u, u ∈ us → u ∈ ts) → areD us = true := by
  have all : ∀ {ts : List OT}, areD ts = true → ∀ u, u ∈ ts → u.isD = true := by
    intro ts
    induction ts with
    | nil => intro _ u hu; cases hu
    | cons t ts ih =>
      intro h u hu
      have h' := Bool.and_eq_true_iff.mp (show (t.isD && areD ts) = true from h)
      rcases List.mem_cons.mp hu with rfl | hu
      · exact h'.1
      · exact ih h'.2 u hu
  intro us
  induction us with
  | nil => intro _; rfl
  | cons u us ih =>
    intro hs
    show (u.isD && areD us) = true
    rw [all h u (hs u List.mem_cons_self), ih fun v hv => hs v (List.mem_cons_of_mem _ hv)]
    rfl
theorem cutD_in {α : Type} {ts : List α} {lo hi : Option Int} {u : α} (h : u ∈ cutD ts lo hi) : u ∈ ts := List.mem_of_mem_drop (List.mem_of_mem_take h)
theorem datas_cut (ts : List OT) (lo hi : Option Int) : datas (cutD ts lo hi) = cutD (datas ts) lo hi := by
  rw [datas_eq, datas_eq, cutD_map]
theorem wd_sl2T {op : R2} (g : Bool → Bool) {j : Nat} {a : Addr} {ts0 : List OT} {t1 t2 : TO} (hop : ∀ v w x y H (QQ : VK), Dp K H v x → Dp K H w y → SeqAt.shaped x = true → SeqAt.shaped y = true → QQ (.bl (g (PyData.eqv x y))) H → op v w H QQ) (hj : ρ[j]? = some (some (.deep (.lst a ts0))))
    (h : WO B K t1 ρ fun lo ρ1 => WO B K t2 ρ1 fun hi ρ2 => ∃ ts, ρ2[j]? = some (some (.deep (.lst a ts))) ∧ areD ts = true ∧ WD B K tb ρ2 fun y ρ3 => ρ3[j]? = some (some (.deep (.lst a ts))) ∧ (noD (.list (cutD (datas ts) lo hi)) = true ∧ noD y = true ∧ SeqAt.shaped (.list (cutD (datas ts) lo hi)) = true ∧ SeqAt.shaped y = true) ∧ QD (.bool (g (PyData.eqv (.list (cutD (datas ts) lo hi)) y))) ρ3) :
    WD B K (tOp op (tSl (rSlAny K) (tVar j) t1 t2) tb) ρ QD := fun F H σ E QQ k => by
  obtain ⟨v, e, s, nd⟩ := E.sl j _ hj
  have ev : v = .ref a := by cases s; rfl
  subst ev
  refine ⟨.ref a, e, h F H σ E _ fun lo F1 H1 ρ1 E1 e1 q1 => q1 F1 H1 σ E1 _ fun hi F2 H2 ρ2 E2 e2 ⟨ts, hj2, hd, q2⟩ => ?_⟩
  obtain ⟨fa, vs, hv, os⟩ := E2.list_at hj2 (π := []) rfl
  refine .inl ⟨a, vs, rfl, .inl (.inl hv), fun p hp => ?_⟩
  obtain ⟨E3, e3⟩ := E2.alloc (o := .lst (cutV vs lo hi)) hp
  have ne : ∀ b, b ∈ fps ts → upd F2 p (.lst (cutV vs lo hi)) b = none ∧ upd H2 p (.lst (cutV vs lo hi)) b = H2 b := fun b hb => by
    obtain ⟨k1, o, k2⟩ := os.live hb
    have : b ≠ p := fun z => by rw [z, hp] at k2; cases k2
    rw [upd_ne this, upd_ne this]
    exact ⟨k1, rfl⟩
  have os3 := os.mono e3 ne
  refine q2 _ _ σ E3 _ fun w y F4 H4 ρ4 E4 e4 ry ⟨hj4, ⟨n1, n2, s1, s2⟩, q4⟩ => ?_
  obtain ⟨_, vs4, hv4, os4⟩ := E4.list_at hj4 (π := []) rfl
  have os5 := (OtA.swap e4 os3 os4).cut lo hi
  have hd5 : areD (cutD ts lo hi) = true := areD_sub hd _ fun u hu => cutD_in hu
  have rp : Rp K H4 (.ref p) (.list (cutD (datas ts) lo hi)) := by
    rw [← datas_cut]
    exact .lst (E4.fh _ _ (e4 _ _ upd_same)) (os5.rp E4.fh hd5 fun _ _ => rfl)
  exact hop _ _ _ _ H4 _ (rp.dp (Ex.refl H4) n1) (Rp.dp E4.fh ry n2) s1 s2 (k _ _ F4 H4 ρ4 E4 (((e1.trans e2).trans e3).trans e4) (.bl _) q4)
theorem wd_eqSlT {j : Nat} {a : Addr} {ts0 : List OT} {t1 t2 : TO} (hj : ρ[j]? = some (some (.deep (.lst a ts0))))
    (h : WO B K t1 ρ fun lo ρ1 => WO B K t2 ρ1 fun hi ρ2 => ∃ ts, ρ2[j]? = some (some (.deep (.lst a ts))) ∧ areD ts = true ∧ WD B K tb ρ2 fun y ρ3 => ρ3[j]? = some (some (.deep (.lst a ts))) ∧ (noD (.list (cutD (datas ts) lo hi)) = true ∧ noD y = true ∧ SeqAt.shaped (.list (cutD (datas ts) lo hi)) = true ∧ SeqAt.shaped y = true) ∧ QD (.bool (PyData.eqv (.list (cutD (datas ts) lo hi)) y)) ρ3) :
    WD B K (tOp (rEqD K) (tSl (rSlAny K) (tVar j) t1 t2) tb) ρ QD := wd_sl2T (fun b => b) (fun v w x y H QQ d1 d2 s1 s2 q => ⟨x, y, d1, d2, s1, s2, q⟩) hj h
theorem wd_neSlT {j : Nat} {a : Addr} {ts0 : List OT} {t1 t2 : TO} (hj : ρ[j]? = some (some (.deep (.lst a ts0))))
    (h : WO B K t1 ρ fun lo ρ1 => WO B K t2 ρ1 fun hi ρ2 => ∃ ts, ρ2[j]? = some (some (.deep (.lst a ts))) ∧ areD ts = true ∧ WD B K tb ρ2 fun y ρ3 => ρ3[j]? = some (some (.deep (.lst a ts))) ∧ (noD (.list (cutD (datas ts) lo hi)) = true ∧ noD y = true ∧ SeqAt.shaped (.list (cutD (datas ts) lo hi)) = true ∧ SeqAt.shaped y = true) ∧ QD (.bool (!PyData.eqv (.list (cutD (datas ts) lo hi)) y)) ρ3) :
    WD B K (tOp (rNeD K) (tSl (rSlAny K) (tVar j) t1 t2) tb) ρ QD := wd_sl2T (fun b => !b) (fun v w x y H QQ d1 d2 s1 s2 q => ⟨x, y, d1, d2, s1, s2, q⟩) hj h
/-- over an own list of own things: the name holds where each stands -/
theorem ws_forP {i j : Nat} {a : Addr} {ts : List OT} {tS : TS} (hp : NP B i) (hj : ρ[j]? = some (some (.deep (.lst a ts)))) (I : List OT → En → Prop) (ic : ∀ pre ρ', I pre ρ' → ρ'[j]? = some (some (.deep (.lst a ts)))) (i0 : I [] ρ)
    (is : ∀ pre u post ρ2 l, ts = pre ++ u :: post → I pre ρ2 → u.r.toL = some l → WS B K tS (ρ2.set i (some l)) (Z.lp (I (pre ++ [u])))) (id : ∀ ρ2, I ts ρ2 → Z.nx ρ2) : WS B K (tFor (iList K (tVar j)) (gName i) tS) ρ Z := fun F H σ E D ok => by
  obtain ⟨v, e, s, nd⟩ := E.sl j _ hj
  have ev : v = .ref a := by cases s; rfl
  subst ev
  obtain ⟨_, vs, hv, os⟩ := E.list_at hj (π := []) rfl
  have sq : ∀ {F H σ ρ'}, EnvOk B K F H σ ρ' → ρ'[j]? = some (some (.deep (.lst a ts))) → ∃ vs, H a = some (.lst vs) ∧ OtA K F H vs ts := fun E h => (E.list_at h (π := []) rfl).2
  refine ⟨.ref a, e, a, rfl, ⟨vs, .inl (.inl hv)⟩, ?_⟩
  refine ⟨fun n m σ H => m = ts.length - n ∧ n ≤ ts.length ∧ ∃ F' ρ', EnvOk B K F' H σ ρ' ∧ Ex F F' ∧ I (ts.take n) ρ', ⟨ts.length, (Nat.sub_zero _).symm, Nat.zero_le _, F, ρ, E, Ex.refl F, i0⟩, ?_⟩
  rintro n m σ2 H2 ⟨rfl, hn, F2, ρ2, E2, e2, q⟩
  obtain ⟨ws, hw, osw⟩ := sq E2 (ic _ _ q)
  by_cases hlt : n < ts.length
  · have ea : ts[n]? = some ts[n] := List.getElem?_eq_getElem hlt
    obtain ⟨w, hw2, ow⟩ := osw.get' ea
    refine .inr ⟨⟨ws, w, .inl (.inl hw), hw2⟩, fun σ' H' => ∃ F' ρ', EnvOk B K F' H' σ' ρ' ∧ Ex F F' ∧ I (ts.take (n + 1)) ρ', fun σ' H' p' => ⟨ts.length - (n + 1), by omega, rfl, hlt, p'⟩, fun x H' y => ?_⟩
    obtain ⟨rfl, hy⟩ := y
    have hx := hy ws (.inl (.inl hw))
    rw [hw2] at hx
    cases hx
    have key : ∃ l, (ts[n]).r.toL = some l ∧ SlotOk K F2 H' w l ∧ l.pl = true := by
      generalize ts[n] = u at ow
      cases ow with
      | d h => exact ⟨_, rfl, h, rfl⟩
      | lst _ _ _ => exact ⟨_, rfl, rfl, rfl⟩
      | tup _ _ _ => exact ⟨_, rfl, rfl, rfl⟩
      | dct _ _ _ _ => exact ⟨_, rfl, rfl, rfl⟩
    obtain ⟨l, hl, sl, pl⟩ := key
    have E3 := E2.setD (i := i) sl pl hp
    have fin := is (ts.take n) ts[n] (ts.drop (n + 1)) ρ2 l (split_at ea) q hl F2 H' _ E3
    exact fin { D with nx := fun σ' H' => ∃ F' ρ', EnvOk B K F' H' σ' ρ' ∧ Ex F F' ∧ I (ts.take (n + 1)) ρ', ct := fun σ' H' => ∃ F' ρ', EnvOk B K F' H' σ' ρ' ∧ Ex F F' ∧ I (ts.take (n + 1)) ρ', bk := D.nx }
      ⟨fun F4 H4 σ4 ρ4 E4 e4 q4 => ⟨F4, ρ4, E4, e2.trans e4, by rw [take_snoc ea]; exact q4⟩, fun F4 H4 σ4 ρ4 v4 r4 E4 e4 rv4 q4 => ok.rt F4 H4 σ4 ρ4 v4 r4 E4 (e2.trans e4) rv4 q4,
       fun F4 H4 σ4 ρ4 E4 e4 q4 => ok.nx F4 H4 σ4 ρ4 E4 (e2.trans e4) q4, fun F4 H4 σ4 ρ4 E4 e4 q4 => ⟨F4, ρ4, E4, e2.trans e4, by rw [take_snoc ea]; exact q4⟩⟩
  · have en : n = ts.length := by omega
    subst en
    exact .inl ⟨⟨ws, .inl (.inl hw), by rw [osw.length]; exact Nat.le_refl _⟩, ok.nx F2 H2 σ2 ρ2 E2 e2 (id ρ2 (by rw [List.take_length] at q; exact q))⟩
end
end SV

set_option maxHeartbeats 1000000
namespace SV
open PySem PySem.Spec L2
open Evl (Ex)
variable [Tbs]
/-! ### a comprehension over an own dict's keys; the dict may be read within -/
def CompB (PB : Bs → Prop) {α : Type} (K : Fr) (g : TG) (tt : TT) (te : TE) (vs : List Nat) (f : α → PyData) (as : List α) (ρ : En) (P : α → Option PyData → Prop) : Prop :=
  ∀ a, a ∈ as → ∀ B : Bs, B.pin.map Prod.fst = none → PB B → WG B K g (f a) (wipeE (hide ρ) vs) fun ρ2 => WT B K tt ρ2 fun b ρ3 => (b = true → WD B K te ρ3 fun y _ => P a (some y)) ∧ (b = false → P a none)
section
variable {B : Bs} {K : Fr} {ρ : En} {te : TE} {Q : R → En → Prop} {QD : PyData → En → Prop} {Z : Zs}
theorem lc_genB {α : Type} {J : It} {g : TG} {tt : TT} {vs : List Nat} {f : α → PyData} {as : List α} {P : α → Option PyData → Prop} {F0 F1 H1 : Hp} {σ : L2.St} {ρ1 : En} {QQ : VK} (PB : Bs → Prop) (gv : GV g vs) (E1 : EnvOk B K F1 H1 σ ρ1) (e1 : Ex F0 F1) (hz : as.length ≤ lim)
    (pb : ∀ F H, EnvOk B K F H σ ρ1 → Ex F1 F → PB ⟨F, ntb H, none⟩)
    (go : ∀ (i : Nat) (a : α) F H, as[i]? = some a → EnvOk B K F H σ ρ1 → J.go i H)
    (stop : ∀ (i : Nat) F H, as.length ≤ i → EnvOk B K F H σ ρ1 → J.stop i H)
    (yld : ∀ (i : Nat) (a : α) F H x H', as[i]? = some a → EnvOk B K F H σ ρ1 → Ex F1 F → J.yld i H x H' → H' = H ∧ Rp K F x (f a))
    (h : CompB PB K g tt te vs f as ρ1 P) (k : ∀ v F' H' ys, EnvOk B K F' H' σ ρ1 → Ex F0 F' → ROk B K F' H' σ ρ1 v (.new ys) → Sel P as ys → QQ v H') :
    ∀ D, H1 D = none → ∃ W : Nat → Nat → Hp → Prop, (∃ m, W 0 m (upd H1 D (.lst []))) ∧ ∀ i m H, W i m H →
      (J.stop i H ∧ QQ (.ref D) H) ∨ (J.go i H ∧ ∃ Nx : Hp → Prop, (∀ H', Nx H' → ∃ m', m' < m ∧ W (i + 1) m' H') ∧ ∀ x H', J.yld i H x H' → g x (wipe σ vs) H' fun σ2 H2 => wipe σ2 vs = wipe σ vs ∧ tt σ2 H2 fun b H3 =>
        if b = true then te σ2 H3 fun y H4 => ∃ acc, H4 D = some (.lst acc) ∧ acc.length < sizeLine ∧ Nx (upd H4 D (.lst (acc ++ [y]))) else Nx H3) := by
  intro D hD
  have hs : ∀ i, ¬ SFp σ ρ1 i D := fun i => E1.fr hD i
  have h0 : B.H0 D = none := E1.h0p hD
  refine ⟨fun i m H => m = as.length - i ∧ i ≤ as.length ∧ ∃ F acc ys, EnvOk B K F H σ ρ1 ∧ Ex F1 F ∧ F D = none ∧ H D = some (.lst acc) ∧ RpA K F acc ys ∧ Sel P (as.take i) ys,
    ⟨as.length, (Nat.sub_zero _).symm, Nat.zero_le _, F1, [], [], E1.allocO hD, Ex.refl F1, E1.fh.free hD, upd_same, .nil, .nil⟩, ?_⟩
  rintro i m H2 ⟨rfl, hi, F2, acc, ys, E2, e2, fD, hD2, ra, sel⟩
  by_cases hlt : i < as.length
  · have ea : as[i]? = some as[i] := List.getElem?_eq_getElem hlt
    refine .inr ⟨go i _ F2 H2 ea E2, fun H' => ∃ F acc ys, EnvOk B K F H' σ ρ1 ∧ Ex F1 F ∧ F D = none ∧ H' D = some (.lst acc) ∧ RpA K F acc ys ∧ Sel P (as.take (i + 1)) ys, fun H' p' => ⟨as.length - (i + 1), by omega, rfl, hlt, p'⟩, fun x H' y => ?_⟩
    obtain ⟨eH, rx⟩ := yld i _ F2 H2 x H' ea E2 e2 y
    subst eH
    refine gv.stay (h as[i] (List.getElem_mem hlt) ⟨F2, ntb H', none⟩ rfl (pb F2 H' E2 e2) F2 H' _ x (E2.inner vs) rx (fun σ2 H3 => tt σ2 H3 fun b H4 => if b = true then te σ2 H4 fun y H5 => ∃ acc, H5 D = some (.lst acc) ∧ acc.length < sizeLine ∧ ∃ F acc' ys, EnvOk B K F (upd H5 D (.lst (acc ++ [y]))) σ ρ1 ∧ Ex F1 F ∧ F D = none ∧ (upd H5 D (.lst (acc ++ [y]))) D = some (.lst acc') ∧ RpA K F acc' ys ∧ Sel P (as.take (i + 1)) ys
      else ∃ F acc ys, EnvOk B K F H4 σ ρ1 ∧ Ex F1 F ∧ F D = none ∧ H4 D = some (.lst acc) ∧ RpA K F acc ys ∧ Sel P (as.take (i + 1)) ys) fun F3 H3 σ3 ρ3 E3 e3 q3 => ?_) fun σ3 H3 hl hk q => ⟨wipe_eq (by rw [hl, wipe_length]) hk, q⟩
    refine q3 F3 H3 σ3 E3 _ fun b F4 H4 ρ4 E4 e4 q4 => ?_
    cases b with
    | true =>
      refine q4.1 rfl F4 H4 σ3 E4 _ fun v y F5 H5 ρ5 E5 e5 rv q5 => ?_
      have st := E5.st.stp
      have E6 := E2.step st
      have hD5 := st.eh D _ hD2 (nt_lst _).1
      have fD5 := st.nf D fD (ntb_live hD2 (nt_lst _).1)
      refine ⟨acc, hD5, ?_, F5, acc ++ [v], ys ++ [y], E6.poke fD5 h0 hs (fun u e => by rw [hD5] at e; cases e; exact nt_lst _), e2.trans st.ef, fD5, upd_same, (ra.mono st.ef).append (.cons rv .nil), ?_⟩
      · have l1 := sel.len
        rw [List.length_take] at l1
        rw [ra.length]
        exact lim_lt (by omega)
      · rw [take_snoc ea]
        exact .yes sel q5
    | false =>
      have st := E4.st.stp
      have E6 := E2.step st
      refine ⟨F4, acc, ys, E6, e2.trans st.ef, st.nf D fD (ntb_live hD2 (nt_lst _).1), st.eh D _ hD2 (nt_lst _).1, ra.mono st.ef, ?_⟩
      rw [take_snoc ea]
      exact .no sel (q4.2 rfl)
  · have e : i = as.length := by omega
    subst e
    rw [List.take_length] at sel
    exact .inl ⟨stop _ F2 H2 (Nat.le_refl _) E2, k _ F2 H2 ys E2 (e1.trans e2) ⟨D, acc, rfl, fD, hD2, ra, h0, hs⟩ sel⟩
/-- a locked dict stands at d -/
def DAt (K : Fr) (d : Addr) (ks : List Key) (xs : List PyData) (B : Bs) : Prop := ks.length = xs.length ∧ ∃ od vs, B.H0 d = some (.frz od (.dK (ks.zip vs))) ∧ RpA K B.F0 vs xs
theorem wd_dgetF {j : Nat} {d : Addr} {ks : List Key} {xs : List PyData} {ty : TE} (hpin : B.pin.map Prod.fst = none) (hD : DAt K d ks xs B) (hj : ρ[j]? = some (some (.raw (.ref d)))) (h : WD B K ty ρ fun y ρ1 => ∃ k x, y = keyD k ∧ getK ks xs k = some x ∧ QD x ρ1) : WD B K (tDGet (tVar j) ty) ρ QD := fun F H σ E QQ kk => by
  obtain ⟨v, e, s⟩ := E.sl j _ hj
  cases (show v = .ref d from s)
  refine ⟨.ref d, e, h F H σ E _ fun v y F1 H1 ρ1 E1 e1 rv ⟨k, x, hy, hx, q⟩ => ?_⟩
  subst hy
  rw [rp_key rv]
  obtain ⟨hl, od, vs, hd, ra⟩ := hD
  have np : B.pin = none := by
    cases e : B.pin with
    | none => rfl
    | some p => rw [e] at hpin; cases hpin
  have hd1 := E1.st.h0 d _ hd (fun i z => by rw [np] at z; cases z) (fun _ z => by cases z)
  have ra1 := ra.mono E1.st.f0
  obtain ⟨w, hw, rw'⟩ := (ra1.getK (ks := ks) (k := k)).1 x hx
  exact ⟨d, w, rfl, .inl ⟨_, k, .inr ⟨od, hd1⟩, rfl, by rw [valV_get, hw]⟩, kk _ _ F1 H1 ρ1 E1 e1 rw' q⟩
theorem we_lcKeys {j : Nat} {g : TG} {tt : TT} {vs : List Nat} {ks : List Key} {xs : List PyData} (P : Key → Option PyData → Prop) (gv : GV g vs) (hj : ρ[j]? = some (some (.ownD ks xs))) (np : NP B j) (hz : ks.length ≤ lim)
    (hc : ∀ d, CompB (DAt K d ks xs) K g tt te vs keyD ks (ρ.set j (some (.raw (.ref d)))) P) (q : ∀ ys, Sel P ks ys → Q (.new ys) ρ) :
    WE B K (tLockE (tLc (iKeys (tVar j)) g tt te vs)) ρ Q := fun F H σ E QQ kk => by
  obtain ⟨v, e, E1, ⟨d, ws, rfl, fd, hd, hkl, ra⟩, hf⟩ := E.giveL hj np
  obtain ⟨h0d, hsd⟩ := hf d rfl
  refine ⟨d, _, hd, True.intro, fun od => ?_⟩
  -- the locked heap
  have E2 := E1.poke (o := .frz od (.dK (ks.zip ws))) fd h0d hsd (fun u e => by rw [hd] at e; cases e; exact nt_dK _)
  have hl : j < σ.length := (List.getElem?_eq_some_iff.mp e).1
  have eσ : σ.set j (some (.ref d)) = σ := by
    refine List.ext_getElem? fun i => ?_
    by_cases c : i = j
    · subst c; rw [List.getElem?_set_self hl, e]
    · rw [List.getElem?_set_ne (Ne.symm c)]
  have E3 := E2.setD (i := j) (l := .raw (.ref d)) (v := .ref d) rfl rfl np
  rw [eσ, List.set_set] at E3
  have fr3 : Free B σ (ρ.set j (some (.raw (.ref d)))) [d] := fun a ha => by
    rw [List.mem_singleton.mp ha]
    refine ⟨h0d, fun i ⟨m, w, q1, q2, q3⟩ => ?_⟩
    rcases set_cases q1 with ⟨rfl, _, ee⟩ | ⟨n, ee⟩
    · cases ee; exact q3
    · refine hsd i ⟨m, w, ?_, q2, q3⟩
      rw [List.getElem?_set_ne (Ne.symm n)]
      exact ee
  have lv : ∀ a, a ∈ [d] → F a = none ∧ ∃ o, upd H d (.frz od (.dK (ks.zip ws))) a = some o ∧ ∀ ps, o ≠ .tbl ps := fun a ha => by rw [List.mem_singleton.mp ha]; exact ⟨fd, _, upd_same, fun _ z => by cases z⟩
  obtain ⟨g1, g2⟩ := E3.guard fr3 lv
  have hdl : ∀ F' H', EnvOk ⟨F, gdH B (upd H d (.frz od (.dK (ks.zip ws)))) [d], B.pin⟩ K F' H' σ (ρ.set j (some (.raw (.ref d)))) → H' d = some (.frz od (.dK (ks.zip ws))) := fun F' H' E' => by
    obtain ⟨_, keep, _⟩ := g2 F' H' _ E'
    rw [(keep d List.mem_cons_self).2, upd_same]
  have hzl : (ks.zip ws).length = ks.length := by rw [List.length_zip, ra.length, ← hkl, Nat.min_self]
  have hgk : ∀ (i : Nat) (k : Key), ks[i]? = some k → ∃ w, (ks.zip ws)[i]? = some (k, w) := fun i k hk => by
    have hi := (List.getElem?_eq_some_iff.mp hk).1
    have hiw : i < ws.length := by rw [ra.length, ← hkl]; exact hi
    exact ⟨ws[i], List.getElem?_zip_eq_some.mpr ⟨hk, List.getElem?_eq_getElem hiw⟩⟩
  refine ⟨.ref d, e, d, od, rfl, .inl ⟨_, upd_same, lc_genB (QQ := fun v H' => H' d = some (HO.frz od (HO.dK (ks.zip ws))) ∧ QQ v (upd H' d (HO.dK (ks.zip ws)))) (J := Itk d od (ks.zip ws)) (f := keyD) (as := ks) (P := P) (DAt K d ks xs) gv g1 (Ex.refl F) hz (fun F' H' E' e' => ⟨hkl, od, ws, ntb_at (hdl F' H' E') (fun _ z => by cases z), ra.mono e'⟩) (fun i k F' H' hk E' => ⟨hdl F' H' E', by rw [hzl]; exact (List.getElem?_eq_some_iff.mp hk).1⟩) (fun i F' H' hi E' => ⟨hdl F' H' E', by rw [hzl]; exact hi⟩) (fun i k F' H' x H2 hk E' e' y => ?_) (hc d) fun v F' H' ys E' e' rv sel => ?_⟩⟩
  · obtain ⟨eH, k2, w2, hk2, rfl⟩ := y
    obtain ⟨w, hw⟩ := hgk i k hk
    rw [hw] at hk2
    cases hk2
    exact ⟨eH, key_rp k⟩
  · refine ⟨hdl F' H' E', ?_⟩
    obtain ⟨E4, keep, fr4⟩ := g2 F' H' _ E'
    have fd4 := (keep d List.mem_cons_self).1
    have E5 := E4.poke (o := .dK (ks.zip ws)) fd4 h0d (fr4 d List.mem_cons_self).2 (fun u e => by rw [hdl F' H' E'] at e; cases e; exact ⟨(fun _ z => by cases z), (fun _ z => by cases z)⟩)
    have rvd : ROk B K F' (upd H' d (.dK (ks.zip ws))) σ (ρ.set j (some (.raw (.ref d)))) (.ref d) (.newD ks xs) := ⟨d, ws, rfl, fd4, upd_same, hkl, ra.mono e', h0d, (fr4 d List.mem_cons_self).2⟩
    have E6 := E5.setND (i := j) rvd np
    have hjl : j < ρ.length := (List.getElem?_eq_some_iff.mp hj).1
    have eρ : ρ.set j (some (.ownD ks xs)) = ρ := by
      refine List.ext_getElem? fun i => ?_
      by_cases c : i = j
      · subst c; rw [List.getElem?_set_self hjl, hj]
      · rw [List.getElem?_set_ne (Ne.symm c)]
    rw [eσ, List.set_set, eρ] at E6
    refine kk v (.new ys) F' _ ρ E6 e' ?_ (q ys sel)
    obtain ⟨a, us, ev, f1, f2, f3, f4, f5⟩ := rv
    have hne : a ≠ d := fun z => by
      rw [z, hdl F' H' E'] at f2
      cases f2
    refine ⟨a, us, ev, f1, (upd_ne hne).trans f2, f3, ?_, fun i ⟨m, w, q1, q2, q3⟩ => ?_⟩
    · have f4' : gdH B (upd H d (.frz od (.dK (ks.zip ws)))) [d] a = none := f4
      unfold gdH at f4'
      rw [if_neg (fun z => hne (List.mem_singleton.mp z))] at f4'
      exact f4'
    · by_cases c : i = j
      · subst c
        rw [hj] at q1
        cases q1
        rw [e] at q2
        cases q2
        cases (show V.ref d = V.ref a from q3)
        exact hne rfl
      · exact f5 i ⟨m, w, by rw [List.getElem?_set_ne (Ne.symm c)]; exact q1, q2, q3⟩
/-! ### sorted(d), d an own dict whose keys are ints -/
abbrev rSortDI : List V → Hp → VK → Prop := fun xs H Q => ∃ (a : Addr) (kvs : List (Key × V)) (ks : List Int), xs = [.ref a] ∧ Rd H a (.dK kvs) ∧ kvs.map (·.1) = ks.map Sum.inl ∧ ks.length < 64 ∧
    ∀ (ys : List Int) (p : Addr), ys.Perm ks → ys.Pairwise (· ≤ ·) → H p = none → Q (.ref p) (upd H p (.lst (ys.map V.int)))
theorem k_sortDI {X : Cx} (hc : X.calm = true) : CallR X (.builtin "sorted") rSortDI := call_sortedDI hc
theorem we_sortDI {j : Nat} {ns : List Int} {xs : List PyData} (hj : ρ[j]? = some (some (.ownD (ns.map Sum.inl) xs))) (hn : ns.length < 64) (q : ∀ ns' : List Int, ns'.Perm ns → ns'.Pairwise (· ≤ ·) → Q (.new (ns'.map .int)) ρ) :
    WE B K (tCB rSortDI (tCons (tVar j) tNil)) ρ Q := fun F H σ E QQ kk => by
  obtain ⟨a, vs, ha, f1, f2, hl, f3⟩ := E.ownD_at hj
  refine ⟨.ref a, ha, a, _, ns, rfl, .inl f2, ?_, hn, fun ys p pm pw hp => ?_⟩
  · rw [List.map_fst_zip]
    rw [f3.length, hl]
    exact Nat.le_refl _
  · obtain ⟨E2, r2⟩ := new_ok E hp (RpA.of_ints (K := K) (F := F) ys)
    exact kk _ _ F _ ρ E2 (Ex.refl F) r2 (q ys pm pw)
end
end SV

set_option maxHeartbeats 1000000
namespace SV
open PySem PySem.Spec L2
open Evl (Ex)
variable [Tbs]
/-! ### is True, is not True, of truths -/
def rIsB : R2 := fun x y H Q => ∃ b c : Bool, x = .bl b ∧ y = .bl c ∧ Q (.bl (decide (b = c))) H
def rNotB : R2 := fun x y H Q => ∃ b c : Bool, x = .bl b ∧ y = .bl c ∧ Q (.bl (!decide (b = c))) H
theorem boolB (b c : Bool) : (Value.bool b == Value.bool c) = decide (b = c) := by cases b <;> cases c <;> rfl
theorem op_isB {X : Cx} : OpR X (compareOp .Is) rIsB := by
  intro pins s σ H x y v u Q I rx ry h
  obtain ⟨b, c, rfl, rfl, q⟩ := h
  cases rx; cases ry
  exact wpAny_is_plain rfl ⟨.bl _, H, I, by rw [boolB]; rfl, q⟩
theorem op_notB {X : Cx} : OpR X (compareOp .IsNot) rNotB := by
  intro pins s σ H x y v u Q I rx ry h
  obtain ⟨b, c, rfl, rfl, q⟩ := h
  cases rx; cases ry
  exact wpAny_isNot_plain rfl ⟨.bl _, H, I, by rw [boolB]; rfl, q⟩
section
variable {B : Bs} {K : Fr} {ρ : En} {QD : PyData → En → Prop} {Q : R → En → Prop} {ta tb : TE}
theorem wd_isB (h : WD B K ta ρ fun x ρ1 => ∃ b, x = .bool b ∧ WD B K tb ρ1 fun y ρ2 => ∃ c, y = .bool c ∧ QD (.bool (decide (b = c))) ρ2) : WD B K (tOp rIsB ta tb) ρ QD := fun F H σ E QQ k =>
  h F H σ E _ fun v x F1 H1 ρ1 E1 e1 rv ⟨i, hx, q⟩ => q F1 H1 σ E1 _ fun u y F2 H2 ρ2 E2 e2 ru ⟨j, hy, q2⟩ => by
    subst hx hy
    cases rv; cases ru
    exact ⟨i, j, rfl, rfl, k _ _ F2 H2 ρ2 E2 (e1.trans e2) (.bl _) q2⟩
theorem wd_notB (h : WD B K ta ρ fun x ρ1 => ∃ b, x = .bool b ∧ WD B K tb ρ1 fun y ρ2 => ∃ c, y = .bool c ∧ QD (.bool (!decide (b = c))) ρ2) : WD B K (tOp rNotB ta tb) ρ QD := fun F H σ E QQ k =>
  h F H σ E _ fun v x F1 H1 ρ1 E1 e1 rv ⟨i, hx, q⟩ => q F1 H1 σ E1 _ fun u y F2 H2 ρ2 E2 e2 ru ⟨j, hy, q2⟩ => by
    subst hx hy
    cases rv; cases ru
    exact ⟨i, j, rfl, rfl, k _ _ F2 H2 ρ2 E2 (e1.trans e2) (.bl _) q2⟩
end
/-! ### max(d), d an own dict whose keys are ints -/
def rMaxDI : List V → Hp → VK → Prop := fun xs H Q => ∃ (a : Addr) (kvs : List (Key × V)) (ns : List Int), xs = [.ref a] ∧ Rd H a (.dK kvs) ∧ kvs.map (·.1) = ns.map Sum.inl ∧ 0 < ns.length ∧
    ∀ m, m ∈ ns → (∀ y, y ∈ ns → y ≤ m) → Q (.int m) H
theorem k_maxDI {X : Cx} (hc : X.calm = true) : CallR X (.builtin "max") rMaxDI := by
  intro pins s σ H xs us Q I r q
  obtain ⟨a, kvs, ns, ex, hd, hks, hne, q⟩ := q
  subst ex
  obtain ⟨u, eu, rx⟩ := vals1 r
  subst eu
  cases rx
  obtain ⟨z, lo, vs, rel, dd⟩ := dk_rd I.hok hd
  obtain ⟨ep, hat⟩ := dd.dictAt
  have hkeys : vs.map (·.1) = ns.map Sum.inl := rel.keys.symm.trans hks
  have hl : vs.length = ns.length := by
    have e := congrArg List.length hkeys
    rw [List.length_map, List.length_map] at e
    exact e
  have hP : ∀ (i : Nat) (v : Value), (∃ k x, vs[i]? = some (k, x) ∧ (mixKind X.prog X.w).is k v = true) → ∃ t, v = .int (ns.getD i 0) t := fun i v ⟨k, x, e1, e2⟩ => by
    have e3 : (vs.map (·.1))[i]? = some k := by rw [List.getElem?_map, e1]; rfl
    rw [hkeys, List.getElem?_map] at e3
    cases e4 : ns[i]? with
    | none => rw [e4] at e3; cases e3
    | some y =>
      rw [e4] at e3
      have e5 : Sum.inl y = k := Option.some.inj e3
      subst e5
      rw [List.getD_eq_getElem?_getD, e4]
      rcases keyIs_shape (show keyIs (Sum.inl y) v = true from e2) with ⟨i, t, ek, ev⟩ | ⟨z, t, ek, ev⟩
      · cases ek
        exact ⟨t, ev⟩
      · cases ek
  have S := PySem.W.kdl_dict (prog := X.prog) (w := X.w) (knd := mixKind X.prog X.w) (kvs := vs) (ep := ep) lo
  obtain ⟨oI, St, hit, W, hst⟩ := S.iter X.A.in1 s (show X.A.in1.handled = none from I.ok.hd hc) hat
  have hthere := (S.there s.heap hat).2
  refine call_max_walk (hit _ _ ?_)
  refine ⟨s.heap.objs.size, _, _, vs.length, fun i v => ∃ t, v = .int (ns.getD i 0) t, St, fun i j => decide (ns.getD i 0 > ns.getD j 0), rfl, W.mono_item fun i v _ h => hP i v h, hst, fun b hb => ?_, by omega, CmpOf.ints_gt (fun i => ns.getD i 0) (fun i v z => z), fun v h' tk hv' hk => ?_⟩
  · show b < (s.heap.push _).objs.size
    rw [show (s.heap.push oI).objs.size = s.heap.objs.size + 1 from Array.size_push ..]
    rcases List.mem_cons.mp hb with z | z
    · rw [z]
      exact Nat.lt_succ_self _
    · rw [List.mem_singleton.mp z]
      exact Nat.lt_succ_of_lt hthere
  · obtain ⟨t, rfl⟩ := hv'
    obtain ⟨m1', m2'⟩ := argBest_gt (fun i => ns.getD i 0) (vs.length - 1)
    have m1 : argBest (fun i j => decide (ns.getD i 0 > ns.getD j 0)) (vs.length - 1) ≤ vs.length - 1 := m1'
    have m2 : ∀ j, j ≤ vs.length - 1 → ns.getD j 0 ≤ ns.getD (argBest (fun i j => decide (ns.getD i 0 > ns.getD j 0)) (vs.length - 1)) 0 := m2'
    have hk2 : ∀ b o, s.heap.get? b = some o → h'.get? b = some o := fun b o e => hk b o (fun z => by rw [List.mem_singleton.mp z] at e; exact absurd (Heap.lt_size e) (Nat.lt_irrefl _)) (Heap.get?_push_of_some _ e)
    refine ⟨.int _, H, I.kept (t' := tk) hk2, ⟨t, rfl⟩, q _ (PySem.getD_mem (by omega)) fun y hy => ?_⟩
    obtain ⟨j, hj, e⟩ := List.mem_iff_getElem.mp hy
    have z := m2 j (by omega)
    have e3 : ns.getD j 0 = y := by rw [List.getD_eq_getElem?_getD, List.getElem?_eq_getElem hj, ← e] <;> rfl
    rw [e3] at z
    exact z
section
variable {B : Bs} {K : Fr} {ρ : En} {QD : PyData → En → Prop}
theorem wd_maxDI {j : Nat} {ns : List Int} {xs : List PyData} (hj : ρ[j]? = some (some (.ownD (ns.map Sum.inl) xs))) (hn : 0 < ns.length) (q : ∀ m, m ∈ ns → (∀ y, y ∈ ns → y ≤ m) → QD (.int m) ρ) :
    WD B K (tCB rMaxDI (tCons (tVar j) tNil)) ρ QD := fun F H σ E QQ kk => by
  obtain ⟨a, vs, ha, f1, f2, hl, f3⟩ := E.ownD_at hj
  refine ⟨.ref a, ha, a, _, ns, rfl, .inl f2, ?_, hn, fun m h1 h2 => ?_⟩
  · rw [List.map_fst_zip]
    rw [f3.length, hl]
    exact Nat.le_refl _
  · exact kk _ _ F _ ρ E (Ex.refl F) (.int _) (q m h1 h2)
end
/-! ### an own list == [], != []: its things may be any -/
def rEqE (K : Fr) : R2 := fun x y H Q => ∃ (a b : Addr) (vs : List V), x = .ref a ∧ y = .ref b ∧ SqL K H a vs ∧ SqL K H b [] ∧ Q (.bl vs.isEmpty) H
def rNeE (K : Fr) : R2 := fun x y H Q => ∃ (a b : Addr) (vs : List V), x = .ref a ∧ y = .ref b ∧ SqL K H a vs ∧ SqL K H b [] ∧ Q (.bl (!vs.isEmpty)) H
section
variable {X : Cx}
theorem op_eqE (hu : X.A.units + 64 < cLine) : OpR X (compareOp .Eq) (rEqE X.K) := by
  intro pins s σ H x y v u Q I rx ry h
  obtain ⟨a, b, vs, rfl, rfl, ha, hb, q⟩ := h
  cases rx; cases ry
  obtain ⟨its, rv, hl, _⟩ := I.list ha
  obtain ⟨its2, rv2, hl2, _⟩ := I.list hb
  cases rv2
  have hq : EP X pins σ Q (.bool vs.isEmpty) s := ⟨.bl _, H, I, rfl, q⟩
  cases rv with
  | nil => exact SeqAt.RcAt.lists (e := fun _ => true) hl.isList hl2.isList rfl (by omega) (fun j h1 _ => absurd h1 (Nat.not_lt_zero _)) X.prog X.w X.xe _ hq
  | cons r1 r2 => exact SeqAt.RcAt.lists_lengths hl.isList hl2.isList (by simp) (by omega) X.prog X.w X.xe _ hq
theorem op_neE (hu : X.A.units + 64 < cLine) : OpR X (compareOp .NotEq) (rNeE X.K) := by
  intro pins s σ H x y v u Q I rx ry h
  obtain ⟨a, b, vs, rfl, rfl, ha, hb, q⟩ := h
  cases rx; cases ry
  obtain ⟨its, rv, hl, _⟩ := I.list ha
  obtain ⟨its2, rv2, hl2, _⟩ := I.list hb
  cases rv2
  have hq : EP X pins σ Q (.bool (!vs.isEmpty)) s := ⟨.bl _, H, I, rfl, q⟩
  cases rv with
  | nil => exact SeqAt.RcNeAt.lists (e := fun _ => true) hl.isList hl2.isList rfl (by omega) (fun j h1 _ => absurd h1 (Nat.not_lt_zero _)) X.prog X.w X.xe _ hq
  | cons r1 r2 => exact SeqAt.RcNeAt.lists_lengths hl.isList hl2.isList (by simp) (by omega) X.prog X.w X.xe _ hq
theorem k_eqE (K : Fr) (h : X.K = K) (hu : X.A.units + 64 < cLine) : OpR X (compareOp .Eq) (rEqE K) := h ▸ op_eqE hu
theorem k_neE (K : Fr) (h : X.K = K) (hu : X.A.units + 64 < cLine) : OpR X (compareOp .NotEq) (rNeE K) := h ▸ op_neE hu
end
section
variable {B : Bs} {K : Fr} {ρ : En} {QD : PyData → En → Prop} {tb : TE}
theorem isEmpty_rp {F : Hp} {vs : List V} {xs : List PyData} (r : RpA K F vs xs) : vs.isEmpty = xs.isEmpty := by cases r <;> rfl
theorem wd_eqE {i : Nat} {zs : List PyData} (hi : ρ[i]? = some (some (.own zs))) (h : WD B K tb ρ fun y ρ2 => ∃ xs, ρ2[i]? = some (some (.own xs)) ∧ y = .list [] ∧ QD (.bool xs.isEmpty) ρ2) : WD B K (tOp (rEqE K) (tVar i) tb) ρ QD := fun F H σ E QQ k => by
  obtain ⟨a, vs, e, _⟩ := E.own_at hi
  refine ⟨.ref a, e, h F H σ E _ fun u y F2 H2 ρ2 E2 e2 ru ⟨xs, hx, hy, q2⟩ => ?_⟩
  obtain ⟨a2, vs2, e3, _, k2, k3⟩ := E2.own_at hx
  have ea : a2 = a := by
    rw [e] at e3
    cases e3
    rfl
  subst ea
  subst hy
  cases ru with
  | lst hf r =>
    cases r
    exact ⟨_, _, vs2, rfl, rfl, .inl (.inl k2), .inl (.inl (E2.fh _ _ hf)), by rw [isEmpty_rp k3]; exact k _ _ F2 H2 ρ2 E2 e2 (.bl _) q2⟩
theorem wd_neE {i : Nat} {zs : List PyData} (hi : ρ[i]? = some (some (.own zs))) (h : WD B K tb ρ fun y ρ2 => ∃ xs, ρ2[i]? = some (some (.own xs)) ∧ y = .list [] ∧ QD (.bool (!xs.isEmpty)) ρ2) : WD B K (tOp (rNeE K) (tVar i) tb) ρ QD := fun F H σ E QQ k => by
  obtain ⟨a, vs, e, _⟩ := E.own_at hi
  refine ⟨.ref a, e, h F H σ E _ fun u y F2 H2 ρ2 E2 e2 ru ⟨xs, hx, hy, q2⟩ => ?_⟩
  obtain ⟨a2, vs2, e3, _, k2, k3⟩ := E2.own_at hx
  have ea : a2 = a := by
    rw [e] at e3
    cases e3
    rfl
  subst ea
  subst hy
  cases ru with
  | lst hf r =>
    cases r
    exact ⟨_, _, vs2, rfl, rfl, .inl (.inl k2), .inl (.inl (E2.fh _ _ hf)), by rw [isEmpty_rp k3]; exact k _ _ F2 H2 ρ2 E2 e2 (.bl _) q2⟩
end
/-! ### a text in a tuple or list of texts, a number in one of numbers -/
section
variable {B : Bs} {K : Fr} {ρ : En} {QD : PyData → En → Prop} {ta tb : TE}
theorem RpA.strs_inv {F : Hp} : ∀ {ss : List Str} {vs : List V}, RpA K F vs (ss.map .str) → vs = ss.map V.str
  | [], _, .nil => rfl
  | s :: ss, _, .cons (.str _) r => by rw [RpA.strs_inv r]; rfl
theorem RpA.ints_inv {F : Hp} : ∀ {ss : List Int} {vs : List V}, RpA K F vs (ss.map .int) → vs = ss.map V.int
  | [], _, .nil => rfl
  | s :: ss, _, .cons (.int _) r => by rw [RpA.ints_inv r]; rfl
theorem inV_strs (s : Str) (ss : List Str) : inV (.str s) (ss.map V.str) = decide (s ∈ ss) := by
  unfold inV
  rw [List.any_map, Bool.eq_iff_iff, List.any_eq_true, decide_eq_true_eq]
  constructor
  · rintro ⟨y, hy, e⟩
    have e2 : (y == s) = true := e
    rw [← eq_of_beq e2]
    exact hy
  · intro h
    exact ⟨s, h, (beq_self_eq_true s : (s == s) = true)⟩
theorem inV_ints (s : Int) (ss : List Int) : inV (.int s) (ss.map V.int) = decide (s ∈ ss) := by
  unfold inV
  rw [List.any_map, Bool.eq_iff_iff, List.any_eq_true, decide_eq_true_eq]
  constructor
  · rintro ⟨y, hy, e⟩
    have e2 : (y == s) = true := e
    rw [← eq_of_beq e2]
    exact hy
  · intro h
    exact ⟨s, h, (beq_self_eq_true s : (s == s) = true)⟩
theorem wd_inStrs {neg : Bool} (h : WD B K ta ρ fun x ρ1 => ∃ s, x = .str s ∧ WD B K tb ρ1 fun y ρ2 => ∃ ss : List Str, (y = .tuple (ss.map .str) ∨ y = .list (ss.map .str)) ∧ QD (.bool (if neg then !decide (s ∈ ss) else decide (s ∈ ss))) ρ2) : WD B K (tOp (rIn K neg) ta tb) ρ QD := fun F H σ E QQ k =>
  h F H σ E _ fun v x F1 H1 ρ1 E1 e1 rv ⟨s, hx, q⟩ => q F1 H1 σ E1 _ fun u y F2 H2 ρ2 E2 e2 ru ⟨ss, hy, q2⟩ => by
    subst hx
    cases rv
    have fin : ∀ (p : Addr) (vs : List V), u = .ref p → (SqL K H2 p vs ∨ SqT K H2 p vs) → RpA K F2 vs (ss.map .str) → rIn K neg (.str s) u H2 QQ := fun p vs hu hs r => by
      have ev := RpA.strs_inv r
      subst ev
      refine ⟨p, _, hu, hs, rfl, by rw [List.all_map]; exact List.all_eq_true.mpr fun _ _ => rfl, ?_⟩
      rw [inV_strs]
      exact k _ _ F2 H2 ρ2 E2 (e1.trans e2) (.bl _) q2
    rcases hy with rfl | rfl
    · cases ru with
      | tup hf r => exact fin _ _ rfl (.inr (E2.fh.stt hf)) r
    · cases ru with
      | lst hf r => exact fin _ _ rfl (.inl (.inl (.inl (E2.fh _ _ hf)))) r
end
end SV

set_option maxHeartbeats 1000000
/-! sorted(xs, key=lambda x: (x[1], x[0])), xs a list of tuples of ints -/
namespace SV
open PySem PySem.Spec L2 PyProof.Rows
open Evl (Ex)
section
variable {prog : Program} {w : World} {A : Around} {E : Value → Shared → Prop} {s : Shared}
theorem run_ix {env : Env} {x : Str} {m : Str → Option Value} {t : Addr} {its : Array Value} {v : Value} {i : Int} {k1 j : Nat} {p1 p2 p3 : Pos} {Q : Value → Shared → Prop} (hk : env.scope.kind = .function) (hl : env.kindOf x = some .local) (hn : s.heap.Ns env.locals m) (hv : m x = some (.ref t)) (ht : IsTup s.heap t its)
    (hlo : -(2 ^ 63) ≤ i) (hhi : i < 2 ^ 63) (hj : seqIndex? i its.size = some j) (hx : its[j]? = some v) (hd : (x == ("__debug__" : Str)) = false) (q : Q v { s with toks := s.toks + 1 }) (hs : ∀ o u, subscripted (.Constant (.int i) k1 p2) false o (.int i u) = operate [o, .int i u] (getItem o (.int i u))) :
    wpAny (model prog w) A (eval (.Subscript (.Name x p1) (.Constant (.int i) k1 p2) p3) env) Q E s := by
  refine Subscript_ (wpAny_Name (wpAny_loadName_local hk hl hn hv (wpAny_Constant_int ?_)) hd)
  have ht' : IsTup ({ s with toks := s.toks + 1 } : Shared).heap t its := ht
  exact subscriptTail_builtinR (x := v) ht'.typeIs slot_tuple_getitem.lookup (getItem_tuple (j := j) (Q := fun r s' => r = v ∧ Q r s') ht' hlo hhi hj hx ⟨rfl, q⟩) (hs _ _)
theorem seq_at (k : Nat) {n : Nat} (h : k < n) : seqIndex? (k : Int) n = some k := by
  have e : seqIndex? (k : Int) n = if (0 ≤ (k : Int) && (k : Int) < n) then some (k : Int).toNat else none := by
    unfold seqIndex?
    simp only [show ¬ ((k : Int) < 0) by omega, if_false]
  rw [e, if_pos (by simp only [Bool.and_eq_true, decide_eq_true_eq]; omega), Int.toNat_natCast]
abbrev lamB (x : Str) (i j : Int) (k1 k2 k3 : Nat) (p1 p2 p3 p4 p5 p6 p7 : Pos) : Expr := .Tuple [.Subscript (.Name x p1) (.Constant (.int i) k1 p2) p3, .Subscript (.Name x p4) (.Constant (.int j) k2 p5) p6] k3 p7
theorem run_lam {env : Env} {x : Str} {m : Str → Option Value} {t : Addr} {its : Array Value} {v0 v1 : Value} {k1 k2 k3 : Nat} {p1 p2 p3 p4 p5 p6 p7 : Pos} {Q : Value → Shared → Prop} (hk : env.scope.kind = .function) (hl : env.kindOf x = some .local) (hn : s.heap.Ns env.locals m) (hv : m x = some (.ref t)) (ht : IsTup s.heap t its)
    (hz : 2 ≤ its.size) (h1 : its[1]? = some v1) (h0 : its[0]? = some v0) (hd : (x == ("__debug__" : Str)) = false) (q : ∀ tk, Q (.ref s.heap.objs.size) { s with heap := s.heap.push { cls := .type "tuple", data := .seq #[v1, v0] }, toks := tk }) :
    wpAny (model prog w) A (eval (lamB x 1 0 k1 k2 k3 p1 p2 p3 p4 p5 p6 p7) env) Q E s := by
  refine wpAny_Tuple_spliced ?_
  show wpAny _ _ (spliced ((false, eval (.Subscript (.Name x p1) (.Constant (.int 1) k1 p2) p3) env) :: (false, eval (.Subscript (.Name x p4) (.Constant (.int 0) k2 p5) p6) env) :: [])) _ _ s
  refine Calls.spliced_cons (run_ix hk hl hn hv ht (by decide) (by decide) (j := 1) ?_ h1 hd ?_ (fun _ _ => rfl))
  · exact seq_at 1 (by omega)
  · refine Calls.spliced_cons (run_ix (s := { s with toks := s.toks + 1 }) hk hl hn hv ht (by decide) (by decide) (j := 0) ?_ h0 hd (Calls.spliced_nil ⟨(show 2 ≤ sizeLine by decide), q _⟩) (fun _ _ => rfl))
    exact seq_at 0 (by omega)
theorem lam_call {f c' t : Addr} {x q : Str} {params : Arguments} {scope : Scope} {cl : List (Str × Addr)} {pm ctv : Value} {its : Array Value} {y0 y1 : Int} {t0 t1 : Tok} {k1 k2 k3 : Nat} {p1 p2 p3 p4 p5 p6 p7 : Pos}
    (ho : s.heap.get? f = some (PySem.W.kla_obj "<lambda>" q params (lamB x 1 0 k1 k2 k3 p1 p2 p3 p4 p5 p6 p7) scope cl pm c' ctv)) (hcd : s.heap.CodeRec (.ref c') q) (hroom : A.depth < recursionLimit) (hlim : s.heap.NoLimit)
    (hbind : bindArgs (PySem.W.kla_fn "<lambda>" q params (lamB x 1 0 k1 k2 k3 p1 p2 p3 p4 p5 p6 p7) scope cl pm (.ref c') ctv) ⟨[.ref t], []⟩ = pure [(x, .ref t)]) (hsc : scope.names = [(x, .local)]) (hk : scope.kind = .function) (hco : scope.isCoroutine = false) (hgen : scope.isGenerator = false)
    (hd : (x == ("__debug__" : Str)) = false) (ht : IsTup s.heap t its) (hz : 2 ≤ its.size) (h1 : its[1]? = some (.int y1 t1)) (h0 : its[0]? = some (.int y0 t0)) :
    wpAny (model prog w) A (call (.ref f) [.ref t]) (PySem.W.KeyPure (.tuple [.int y1, .int y0]) s) E s := by
  have lx : scope.names.lookup x = some .local := by rw [hsc, List.lookup_cons, beq_self_eq_true]
  refine wpAny_call (codeAny_mono (R := fun r s' => ∃ u, r = .ok (.ret u) ∧ PySem.W.KeyPure (.tuple [.int y1, .int y0]) s u s') ?_ fun r s' hq => by obtain ⟨u, rfl, h⟩ := hq; exact h)
  refine PySem.W.kla_callFunE hroom ho rfl hco hgen rfl hcd ?_
  rw [hbind]
  refine wpAny_pure (wpAny_newFunctionEnv (fun y hy => by rw [hsc] at hy; rw [List.mem_singleton.mp hy]; exact fun z => nomatch z) (fun y hy => by rw [List.mem_singleton.mp hy]; exact lx) (fun h₁ hns hsb => ⟨hlim.fresh _ hsb, ?_⟩) hk)
  show codeAny _ _ (.expr (lamB x 1 0 k1 k2 k3 p1 p2 p3 p4 p5 p6 p7) (PySem.W.envX q scope s.heap.objs.size f (.ref c') cl)) _ _
  have kp : ∀ b o, s.heap.get? b = some o → h₁.get? b = some o := fun b o e => hsb.extBut b o (Nat.ne_of_lt (Heap.lt_size e)) (Heap.get?_push_of_some _ e)
  refine PySem.W.kla_codeExpr (run_lam (s := { s with heap := h₁, toks := _ }) (env := PySem.W.envX q scope s.heap.objs.size f (.ref c') cl) (m := fun y => ([(x, Value.ref t)] : List (Str × Value)).reverse.lookup y) hk lx hns ?_ (ht.keeps kp) hz h1 h0 hd fun tk => ?_)
  · show ([(x, Value.ref t)] : List (Str × Value)).lookup x = _
    rw [List.lookup_cons, beq_self_eq_true]
  · refine ⟨_, rfl, _, tk, rfl, fun b o e => Heap.get?_push_of_some _ (kp b o e), ?_⟩
    exact .tuple (as := []) (Heap.get?_push_size _ rfl) rfl rfl (.cons (.int y1 t1) (.cons (.int y0 t0) .nil))
end
/-! ### the rule -/
abbrev k10 (p : V × List Int) : PyData := .tuple [.int (p.2.getD 1 0), .int (p.2.getD 0 0)]
def le10 (a b : List Int) : Prop := a.getD 1 0 < b.getD 1 0 ∨ (a.getD 1 0 = b.getD 1 0 ∧ a.getD 0 0 ≤ b.getD 0 0)
variable [Tbs]
def tSortK (K : Fr) (tx : TE) : TE := fun σ H Q => tx σ H fun x H1 => ∃ (a : Addr) (ps : List (V × List Int)), x = .ref a ∧ SqL K H1 a (ps.map (·.1)) ∧ (∀ p, p ∈ ps → 2 ≤ p.2.length ∧ ∃ t, p.1 = V.ref t ∧ SqT K H1 t (p.2.map V.int)) ∧ LamX.Tabs (Tbs.T.map (·.2)) H1 ∧
  ∀ (H2 : Hp) (l : Addr) (qs : List (V × List Int)), LamX.ExtN H1 H2 → LamX.Tabs (Tbs.T.map (·.2)) H2 → H2 l = none → qs.Perm ps → (qs.map (·.2)).Pairwise le10 → Q (.ref l) (upd H2 l (.lst (qs.map (·.1))))
theorem extN_sl {K : Fr} {H H' : Hp} {a : Addr} {xs : List V} (e : LamX.ExtN H H') (h : SqL K H a xs) : SqL K H' a xs := by
  rcases h with (h | ⟨o, h⟩) | h
  · exact .inl (.inl (e _ _ h fun ps z => by cases z))
  · exact .inl (.inr ⟨o, e _ _ h fun ps z => by cases z⟩)
  · exact .inr h
theorem extN_st {K : Fr} {H H' : Hp} {a : Addr} {xs : List V} (e : LamX.ExtN H H') (h : SqT K H a xs) : SqT K H' a xs := by
  rcases h with (h | ⟨o, h⟩) | h
  · exact .inl (.inl (e _ _ h fun ps z => by cases z))
  · exact .inl (.inr ⟨o, e _ _ h fun ps z => by cases z⟩)
  · exact .inr h
def KeyR (h : Heap) (v : Value) (p : V × List Int) : Prop := L2.RelV p.1 v ∧ 2 ≤ p.2.length ∧ ∃ t its y0 y1 t0 t1, v = .ref t ∧ IsTup h t its ∧ 2 ≤ its.size ∧ its[1]? = some (.int y1 t1) ∧ its[0]? = some (.int y0 t0) ∧ y1 = p.2.getD 1 0 ∧ y0 = p.2.getD 0 0
theorem keyR_each {h : Heap} : ∀ {ps : List (V × List Int)} {us : List Value}, Vals (ps.map (·.1)) us → (∀ p v, p ∈ ps → L2.RelV p.1 v → KeyR h v p) → PySem.W.EachIs (KeyR h) us ps
  | [], _, .nil, _ => .nil
  | p :: ps, _, .cons r t, k => .cons (k p _ List.mem_cons_self r) (keyR_each t fun q v hq => k q v (List.mem_cons_of_mem _ hq))
theorem keyR_vals {h : Heap} : ∀ {ps : List (V × List Int)} {us : List Value}, PySem.W.EachIs (KeyR h) us ps → Vals (ps.map (·.1)) us
  | [], _, .nil => .nil
  | p :: ps, _, .cons r t => .cons r.1 (keyR_vals t)
theorem two_ints {ns : List Int} {its : List Value} (r : Vals (ns.map V.int) its) (h : 2 ≤ ns.length) : ∃ t0 t1, its.toArray[1]? = some (.int (ns.getD 1 0) t1) ∧ its.toArray[0]? = some (.int (ns.getD 0 0) t0) ∧ 2 ≤ its.toArray.size := by
  rcases ns with _ | ⟨a, _ | ⟨b, l⟩⟩
  · cases h
  · simp at h
  · cases r with
    | cons r1 r2 =>
      cases r2 with
      | @cons _ _ _ us r2 r3 =>
        obtain ⟨t0, rfl⟩ := r1
        obtain ⟨t1, rfl⟩ := r2
        refine ⟨t0, t1, rfl, rfl, ?_⟩
        rw [List.size_toArray]
        simp
theorem sorted10 {ps : List (V × List Int)} : (ps.mergeSort (PySem.W.dataLe false k10)).Perm ps ∧ ((ps.mergeSort (PySem.W.dataLe false k10)).map (·.2)).Pairwise le10 := by
  have e : PySem.W.dataLe false k10 = fun p q => decide (p.2.getD 1 0 < q.2.getD 1 0 ∨ (p.2.getD 1 0 = q.2.getD 1 0 ∧ p.2.getD 0 0 ≤ q.2.getD 0 0)) := PySem.W.dataLe_ii (fun p : V × List Int => p.2.getD 1 0) (fun p => p.2.getD 0 0)
  refine ⟨List.mergeSort_perm _ _, ?_⟩
  rw [List.pairwise_map]
  have hs := List.pairwise_mergeSort (le := PySem.W.dataLe false k10) (by rw [e]; intro x y z h1 h2; simp only [decide_eq_true_eq] at *; omega) (by rw [e]; intro x y; simp only [Bool.or_eq_true, decide_eq_true_eq]; omega) ps
  refine hs.imp fun {x y} h => ?_
  rw [e] at h
  have h' := of_decide_eq_true h
  exact h'
theorem pe_sortLam {X : Cx} {c P : Addr} {x : Str} {e : Expr} {tx : TE} {params : Arguments} {scope : Scope} {k1 k2 k3 : Nat} {p1 p2 p3 p4 p5 p6 p7 : Pos} {p pos lpos kpos : Pos} {nmk : Option Str} {j : Nat} (K : Fr) (hK : X.K = K) (hr : Room j X.A)
    (TB : LamX.TabB X.base X.mg c P) (hcode : X.env.code = .ref c) (hm : (P, X.env.qual ++ "<lambda>") ∈ Tbs.T.map (·.2)) (hu : ∀ p, p ∈ Tbs.T.map (·.2) → p.1 = P → p.2 = X.env.qual ++ "<lambda>")
    (hg : Gl X "sorted") (hsm : X.mg "sorted" = none) (hx : PE X e tx)
    (hdef : defaultsOf params X.env = ([], []) := by rfl) (hsc : scope.names = [(x, .local)] := by rfl) (hk : scope.kind = .function := by rfl) (hco : scope.isCoroutine = false := by rfl) (hgen : scope.isGenerator = false := by rfl) (hd : (x == ("__debug__" : Str)) = false := by decide)
    (hbind : ∀ (v : Value) (q : Str) (cl : List (Str × Addr)) (pm cv ctv : Value), bindArgs (PySem.W.kla_fn "<lambda>" q params (lamB x 1 0 k1 k2 k3 p1 p2 p3 p4 p5 p6 p7) scope cl pm cv ctv) ⟨[v], []⟩ = pure [(x, v)] := by intros; rfl)
    (he : backTo pos (starEach [e] X.env) = (false, eval e X.env) :: backTo pos (starEach [] X.env) := by rfl) (hpl : (backTo pos (starEach [e] X.env)).any (·.1) = false := by rfl) (hnm : nmk = some "key" := by rfl) :
    PE X (.Call (.Name "sorted" p) [e] [⟨nmk, .Lambda params (lamB x 1 0 k1 k2 k3 p1 p2 p3 p4 p5 p6 p7) scope lpos, kpos⟩] pos) (tSortK K tx) := by
  subst hK hnm
  refine ⟨fun pins s σ H Q I h => ?_⟩
  refine wpAny_Call_Name_kw (ld_blt I hg hsm (by rfl) ?_)
  refine PyProof.Rows.callWith_kw ?_ he hpl (by rfl) (by rfl)
  rw [he]
  refine Calls.spliced_cons (thn (hx.run pins s σ H _ I h) fun u s1 ⟨v, H1, I1, r1, q1⟩ => Calls.spliced_nil ?_)
  obtain ⟨a, ps, rfl, hS, hps, hT, hq⟩ := q1
  obtain rfl : u = Value.ref a := r1
  show wpAny _ _ (evalAll ((do let v ← eval (.Lambda params (lamB x 1 0 k1 k2 k3 p1 p2 p3 p4 p5 p6 p7) scope lpos) X.env; standAt pos; pure v) :: [])) _ _ s1
  refine wpAny_evalAll_cons (wpAny_bind (LamX.lam_make2 I1 TB hcode hm hu hT hdef (fun y hy e => by rw [hsc] at hy; rw [List.mem_singleton.mp hy] at e; cases e) fun f c' pm ctv H2 s2 I2 eN T2 hf hfn hfr hco2 => wpAny_bind (wpAny_standAt (wpAny_pure (wpAny_evalAll_nil ?_)))))
  obtain ⟨us, rv, pl, hz⟩ := I2.list (extN_sl eN hS)
  obtain ⟨⟨oc, vs, t, hoc, hdc, hvc⟩, _, _⟩ := I2.hok c' _ hco2
  have hR : PySem.W.EachIs (KeyR s2.heap) us ps := keyR_each rv fun p v hp r => by
    obtain ⟨h2, t, ht, hs⟩ := hps p hp
    obtain ⟨its, rt, pt, _⟩ := I2.tuple (extN_st eN hs)
    rw [ht] at r
    obtain ⟨t0, t1, e1, e0, e2⟩ := two_ints rt h2
    exact ⟨by rw [ht]; exact r, h2, t, _, _, _, t0, t1, r, pt, e2, e1, e0, rfl, rfl⟩
  have hlen : ps.length ≤ sizeLine := by
    rw [List.length_map] at hz
    exact hz
  show wpAny _ _ (call (.builtin "sorted") [.ref a] [("key", .ref f)]) _ _ s2
  refine PySem.W.sorted_key_data (R := KeyR s2.heap) (b := false) k10 pl.isList hR (PySem.W.AllAlike.of fun _ _ => rfl) (PySem.W.Sortable.tuples fun _ => ⟨_, _, rfl⟩) hlen (fun p _ => ?_) (ksk_s1 _ _) (fun x => ksk_l1 _ _) (ksk_t1 f) (fun v p hRv hp h tk kp => ?_) fun out cc h' tk kp fr hl hlo hE => ?_
  · have hu := hr.un
    have hd : (k10 p).depth = 1 := rfl
    rw [hd]
    omega
  · obtain ⟨_, _, t, its, y0, y1, t0, t1, rfl, pt, e2, e1, e0, q1, q0⟩ := hRv
    rw [show k10 p = .tuple [.int y1, .int y0] by rw [q1, q0]]
    refine lam_call (s := { s2 with heap := h, toks := tk }) (A := X.A.in1.in1) (kp _ _ hf) ⟨c', oc, vs, _, rfl, kp _ _ hoc, hdc, hvc⟩ ?_ (I2.nolimit.keeps kp) (hbind _ _ _ _ _ _) hsc hk hco hgen hd (pt.keeps kp) e2 e1 e0
    have hdp := hr.dp
    show X.A.depth < recursionLimit
    omega
  · obtain ⟨hp, hw⟩ := sorted10 (ps := ps)
    have hfr := I2.hok.fresh (Nat.le_succ s2.heap.objs.size)
    refine ⟨.ref (s2.heap.objs.size + 1), _, I2.laid (t' := tk) (o := .lst ((ps.mergeSort (PySem.W.dataLe false k10)).map (·.1))) kp (Nat.le_succ _) ?_, rfl, hq H2 _ _ eN T2 hfr hp hw⟩
    refine ⟨?_, out, cc, keyR_vals hE, hl⟩
    rw [List.length_map, hp.length_eq]
    exact hlen
section
variable {B : Bs} {K : Fr} {ρ : En} {te : TE} {Q : R → En → Prop}
theorem rp_ti {F : Hp} {v : V} {ns : List Int} (h : Rp K F v (tiD ns)) : ∃ t, v = V.ref t ∧ SqT K F t (ns.map V.int) := by
  cases h with
  | tup h1 h2 =>
    have e := h2.ints
    subst e
    exact ⟨_, rfl, h1⟩
theorem we_sortLam (h : WD B K te ρ fun x ρ1 => ∃ ts : List (List Int), x = .list (ts.map tiD) ∧ (∀ t, t ∈ ts → 2 ≤ t.length) ∧ ∀ ts' : List (List Int), ts'.Perm ts → ts'.Pairwise le10 → Q (.new (ts'.map tiD)) ρ1) : WE B K (tSortK K te) ρ Q := fun F H σ E QQ k =>
  h F H σ E _ fun v x F1 H1 ρ1 E1 e1 rv ⟨ts, hx, hn, q⟩ => by
    subst hx
    cases rv with
    | @lst a vs xs ha ra =>
    obtain ⟨ps, rfl, rfl, hps⟩ := ra.split_ti
    refine ⟨a, ps, rfl, .inl (.inl (E1.fh _ _ ha)), fun p hp => ⟨hn _ (List.mem_map_of_mem hp), ?_⟩, E1.st.tab, fun H2 l qs eN T2 hl hp hw => ?_⟩
    · obtain ⟨t, e, h1⟩ := rp_ti (hps p hp)
      exact ⟨t, e, E1.fh.stt h1⟩
    · have fh2 : Ex F1 H2 := fun b o e => eN b o (E1.fh b o e) fun ps z => E1.st.tf b ps (by rw [e, z])
      have E2 := E1.step ⟨Ex.refl F1, fh2, eN, fun b h _ => h, E1.st.tf, T2⟩
      have rq : RpA K F1 (qs.map (·.1)) ((qs.map (·.2)).map tiD) := RpA.of_ps fun p hq => hps p (hp.subset hq)
      obtain ⟨E3, r3⟩ := new_ok E2 hl rq
      exact k _ _ F1 _ ρ1 E3 e1 r3 (q _ (hp.map _) hw)
end
/-! ### the code objects' tables, at the end -/
def TbH (mg : Str → Option Value) (base : Heap) : Prop := ∀ p, p ∈ Tbs.T → LamX.TabB base mg p.1 p.2.1
theorem lam_mem {c P : Addr} {q q' : Str} (h : (c, P, q) ∈ Tbs.T) (e : q = q') : (P, q') ∈ Tbs.T.map (·.2) := List.mem_map.mpr ⟨_, h, by rw [e]⟩
theorem lam_u {P : Addr} {q q' : Str} (h : ∀ p, p ∈ Tbs.T.map (·.2) → p.1 = P → p.2 = q) (e : q = q') : ∀ p, p ∈ Tbs.T.map (·.2) → p.1 = P → p.2 = q' := fun p hp hP => (h p hp hP).trans e
section
variable {P : Program} {w : World} {K : Fr} {mg : Str → Option Value} {base : Heap}
theorem okL {x qual : Str} {st : Stmt} {f : Addr} {fd : FuncData} {N ps : List Str} {k : Nat} {sp : Sp} (F : Fun K x qual st f fd) (S : FnScope N ps (defScope st)) (len : ∀ vs H Q E, sp vs H Q E → vs.length = ps.length)
    (hb : ∀ (cdv : Value), fd.code = cdv → ∀ (A : Around) (outer : List Env) (s : Shared) (H : Hp) (vs : List V) (Q : VK) (E : XK), Room k (A.deeper (envOfC qual (defScope st) s.heap.objs.size f cdv)) → sp vs H Q E →
      ∃ t, PSs (cxOf CX0 P w K mg base N qual (defScope st) f cdv A outer s H E).nox (defBody st) t ∧ t { nx := fun _ H' => Q .non H', rt := Q } (L2.start N vs) H) : FnOk P w K mg base CX0 (k + 1) f fd ps sp := by
  obtain ⟨_, _, _, _, _, _, _, _, _, rfl, lk, hcd⟩ := F.ex
  exact fn_of lk hcd S len fun A outer s H vs Q E hr hsp => let ⟨t, h1, h2⟩ := hb _ rfl A outer s H vs Q E hr hsp; ⟨t, h1.nox, h2⟩
end
end SV

set_option maxHeartbeats 1000000
/-! max(t), min(t), t a tuple of ints; enumerate(t), .. -/
namespace SV
open PySem PySem.Spec L2
open Evl (Ex)
variable [Tbs]
theorem ints_at {ns : List Int} {its : List Value} (r : Vals (ns.map V.int) its) {i : Nat} {v : Value} (h : its.toArray[i]? = some v) : ∃ t, v = .int (ns.getD i 0) t := by
  have hi : i < its.length := by
    have := (Array.getElem?_eq_some_iff.mp h).1
    rw [List.size_toArray] at this
    exact this
  have hl := r.length
  rw [List.length_map] at hl
  have e : (ns.map V.int)[i]? = some (.int (ns.getD i 0)) := by
    rw [List.getElem?_map, List.getElem?_eq_getElem (by omega), List.getD_eq_getElem?_getD, List.getElem?_eq_getElem (by omega)]
    rfl
  obtain ⟨w, ew, rw'⟩ := r.get e
  rw [List.getElem?_toArray, ew] at h
  cases h
  exact rw'
def rMaxT (K : Fr) : List V → Hp → VK → Prop := fun vs H Q => ∃ (a : Addr) (ns : List Int), vs = [V.ref a] ∧ SqT K H a (ns.map V.int) ∧ 0 < ns.length ∧ ∀ m, m ∈ ns → (∀ y, y ∈ ns → y ≤ m) → Q (.int m) H
theorem k_maxT {X : Cx} (K : Fr) (hK : X.K = K) (hc : X.calm = true) : CallR X (.builtin "max") (rMaxT K) := by
  subst hK
  intro pins s σ H vs us Q I r h
  obtain ⟨a, ns, rfl, hs, hne, q⟩ := h
  obtain ⟨its, rv, pt, _⟩ := I.tuple hs
  rw [Vals.ref1 r]
  have hl := rv.length
  rw [List.length_map] at hl
  have hlt : a < s.heap.objs.size := by
    obtain ⟨_, e, _⟩ := pt
    exact Heap.lt_size e
  have hz : its.toArray.size = ns.length := by rw [List.size_toArray, hl]
  refine call_max_walk (wpAny_pyIter_tuple pt ?_)
  refine ⟨_, _, _, _, _, _, fun i j => decide (ns.getD i 0 > ns.getD j 0), rfl, Walks.tuple (A := X.A.in1) (show X.A.in1.handled = none from I.ok.hd hc) _ a (Nat.ne_of_lt hlt) its.toArray, ⟨⟨_, Heap.get?_push_size _ rfl, rfl, rfl⟩, Heap.IsTuple.push (show s.heap.IsTuple a its.toArray from pt) _⟩, fun b hb => ?_, by omega, CmpOf.ints_gt (fun i => ns.getD i 0) (fun i v z => ints_at rv z), fun v h' tk hv hk => ?_⟩
  · show b < (s.heap.push _).objs.size
    rw [Heap.size_push]
    rcases List.mem_cons.mp hb with z | z
    · rw [z]
      exact Nat.lt_succ_self _
    · rw [List.mem_singleton.mp z]
      exact Nat.lt_succ_of_lt hlt
  · obtain ⟨t, rfl⟩ := ints_at rv hv
    obtain ⟨m1, m2⟩ := argBest_gt (fun i => ns.getD i 0) (its.toArray.size - 1)
    have hk2 : ∀ b o, s.heap.get? b = some o → h'.get? b = some o := fun b o e => hk b o (fun z => by rw [List.mem_singleton.mp z] at e; exact absurd (Heap.lt_size e) (Nat.lt_irrefl _)) (Heap.get?_push_of_some _ e)
    refine ⟨.int _, H, I.kept (t' := tk) hk2, ⟨t, rfl⟩, q _ (PySem.getD_mem (by have m1' : _ ≤ its.toArray.size - 1 := m1; omega)) fun y hy => ?_⟩
    obtain ⟨j, hj, e⟩ := List.mem_iff_getElem.mp hy
    have z := m2 j (by omega)
    have e3 : ns.getD j 0 = y := by rw [List.getD_eq_getElem?_getD, List.getElem?_eq_getElem hj, ← e] <;> rfl
    rw [e3] at z
    exact z
theorem wd_maxT {B : Bs} {K : Fr} {ρ : En} {te : TE} {QD : PyData → En → Prop} (h : WD B K te ρ fun x ρ1 => ∃ ns : List Int, x = .tuple (ns.map .int) ∧ 0 < ns.length ∧ ∀ m, m ∈ ns → (∀ y, y ∈ ns → y ≤ m) → QD (.int m) ρ1) : WD B K (tCB (rMaxT K) (tCons te tNil)) ρ QD := fun F H σ E QQ k =>
  h F H σ E _ fun v x F1 H1 ρ1 E1 e1 rv ⟨ns, hx, hn, q⟩ => by
    subst hx
    cases rv with
    | @tup a vs xs ha ra =>
    have e := ra.ints
    subst e
    exact ⟨a, ns, rfl, E1.fh.stt ha, hn, fun m hm hy => k _ _ F1 H1 ρ1 E1 e1 (.int m) (q m hm hy)⟩
def rMinT (K : Fr) : List V → Hp → VK → Prop := fun vs H Q => ∃ (a : Addr) (ns : List Int), vs = [V.ref a] ∧ SqT K H a (ns.map V.int) ∧ 0 < ns.length ∧ ∀ m, m ∈ ns → (∀ y, y ∈ ns → m ≤ y) → Q (.int m) H
theorem k_minT {X : Cx} (K : Fr) (hK : X.K = K) (hc : X.calm = true) : CallR X (.builtin "min") (rMinT K) := by
  subst hK
  intro pins s σ H vs us Q I r h
  obtain ⟨a, ns, rfl, hs, hne, q⟩ := h
  obtain ⟨its, rv, pt, _⟩ := I.tuple hs
  rw [Vals.ref1 r]
  have hl := rv.length
  rw [List.length_map] at hl
  have hlt : a < s.heap.objs.size := by
    obtain ⟨_, e, _⟩ := pt
    exact Heap.lt_size e
  have hz : its.toArray.size = ns.length := by rw [List.size_toArray, hl]
  refine call_min_walk (wpAny_pyIter_tuple pt ?_)
  refine ⟨_, _, _, _, _, _, fun i j => decide (ns.getD i 0 < ns.getD j 0), rfl, Walks.tuple (A := X.A.in1) (show X.A.in1.handled = none from I.ok.hd hc) _ a (Nat.ne_of_lt hlt) its.toArray, ⟨⟨_, Heap.get?_push_size _ rfl, rfl, rfl⟩, Heap.IsTuple.push (show s.heap.IsTuple a its.toArray from pt) _⟩, fun b hb => ?_, by omega, CmpOf.ints_lt (fun i => ns.getD i 0) (fun i v z => ints_at rv z), fun v h' tk hv hk => ?_⟩
  · show b < (s.heap.push _).objs.size
    rw [Heap.size_push]
    rcases List.mem_cons.mp hb with z | z
    · rw [z]
      exact Nat.lt_succ_self _
    · rw [List.mem_singleton.mp z]
      exact Nat.lt_succ_of_lt hlt
  · obtain ⟨t, rfl⟩ := ints_at rv hv
    obtain ⟨m1, m2⟩ := argBest_lt (fun i => ns.getD i 0) (its.toArray.size - 1)
    have hk2 : ∀ b o, s.heap.get? b = some o → h'.get? b = some o := fun b o e => hk b o (fun z => by rw [List.mem_singleton.mp z] at e; exact absurd (Heap.lt_size e) (Nat.lt_irrefl _)) (Heap.get?_push_of_some _ e)
    refine ⟨.int _, H, I.kept (t' := tk) hk2, ⟨t, rfl⟩, q _ (PySem.getD_mem (by have m1' : _ ≤ its.toArray.size - 1 := m1; omega)) fun y hy => ?_⟩
    obtain ⟨j, hj, e⟩ := List.mem_iff_getElem.mp hy
    have z := m2 j (by omega)
    have e3 : ns.getD j 0 = y := by rw [List.getD_eq_getElem?_getD, List.getElem?_eq_getElem hj, ← e] <;> rfl
    rw [e3] at z
    exact z
theorem wd_minT {B : Bs} {K : Fr} {ρ : En} {te : TE} {QD : PyData → En → Prop} (h : WD B K te ρ fun x ρ1 => ∃ ns : List Int, x = .tuple (ns.map .int) ∧ 0 < ns.length ∧ ∀ m, m ∈ ns → (∀ y, y ∈ ns → m ≤ y) → QD (.int m) ρ1) : WD B K (tCB (rMinT K) (tCons te tNil)) ρ QD := fun F H σ E QQ k =>
  h F H σ E _ fun v x F1 H1 ρ1 E1 e1 rv ⟨ns, hx, hn, q⟩ => by
    subst hx
    cases rv with
    | @tup a vs xs ha ra =>
    have e := ra.ints
    subst e
    exact ⟨a, ns, rfl, E1.fh.stt ha, hn, fun m hm hy => k _ _ F1 H1 ρ1 E1 e1 (.int m) (q m hm hy)⟩
end SV

set_option maxHeartbeats 1000000
/-! enumerate(t), t a tuple -/
namespace PySem
open Sem (wp)
abbrev itO (t : Addr) : Obj := { cls := .type "tuple_iterator", data := .fields #[.ref t, .int 0 0] }
abbrev enO (n : Nat) : Obj := { cls := .type "enumerate", data := .fields #[.none, .bool false, .ref n, rawInt 0, .none, .none] }
theorem enum_newT (t : Addr) (its : Array Value) : Meets (Builtin.«enumerate.__new__» ⟨[.type "enumerate", .ref t], []⟩) (fun _ R u => u.heap.IsTuple t its ∧ R (.ok (.ret (.ref (u.heap.push (itO t)).objs.size))) { u with heap := (u.heap.push (itO t)).push (enO u.heap.objs.size) }) :=
  .of_wp fun prog w A R u hh => by
    obtain ⟨hq, gq, dq, tq, oq⟩ := u
    obtain ⟨hT, hR⟩ := hh
    have hsub := sub_enumerate
    have go : ∀ {A' : Around} {E : Value → Shared → Prop} {Q : Value → Shared → Prop}, Q (.ref hq.objs.size) ⟨hq.push (itO t), gq, dq, tq, oq⟩ → wpAny (model prog w) A' (pyIter (.ref t)) Q E ⟨hq, gq, dq, tq, oq⟩ := fun q => wpAny_pyIter_tuple hT q
    obtain ⟨⟨c, dct, dt, sl⟩, hl, hc, n, hd⟩ := id hT
    replace hc : c = .type "tuple" := hc
    replace hd : dt = .seq its n := hd
    subst hc hd
    wp_walk using AutoSeq1.wpAny_loadPart' hl
    refine wpAny_stack_any fun st => wpAny_pure ?_
    split
    · rename_i c2 _ _ _ _ _
      cases (c2 == Value.type "enumerate") <;> (wp_walk using AutoSeq1.wpAny_loadPart' hl, go; exact ⟨_, rfl, hR⟩)
    · wp_walk using AutoSeq1.wpAny_loadPart' hl, go
      exact ⟨_, rfl, hR⟩
section
variable {prog : Program} {w : World} {A : Around} {E : Value → Shared → Prop} {s : Shared}
theorem call_enumT {t : Addr} {its : Array Value} {Q : Value → Shared → Prop} (hT : s.heap.IsTuple t its)
    (h : ∀ h', IsEnum h' (s.heap.objs.size + 1) s.heap.objs.size 0 .none → h'.IsTupleIter s.heap.objs.size t 0 → (∀ b o, s.heap.get? b = some o → h'.get? b = some o) → Q (.ref (s.heap.objs.size + 1)) { s with heap := h' }) :
    wpAny (model prog w) A (call (.type "enumerate") [.ref t]) Q E s := by
  refine callType_new F.called_enumerate (by decide) (F.typeCall_enumerate_1 _) (F.newCall_enumerate_1 _) (fun obj => F.args_object_init_2 obj _) F.entry_enumerate_new (enum_newT t its) ⟨hT, ?_⟩
  have hz : (s.heap.push (itO t)).objs.size = s.heap.objs.size + 1 := Heap.size_push ..
  have he : IsEnum ((s.heap.push (itO t)).push (enO s.heap.objs.size)) (s.heap.objs.size + 1) s.heap.objs.size 0 .none := by
    have e := Heap.get?_push_size (s.heap.push (itO t)) (o := enO s.heap.objs.size) rfl
    rw [hz] at e
    exact e
  show _ ∧ _
  rw [hz]
  exact ⟨⟨_, he, rfl⟩, h _ he ⟨_, Heap.get?_push_of_some _ (Heap.get?_push_size _ rfl), rfl, rfl⟩ fun b o x => Heap.get?_push_of_some _ (Heap.get?_push_of_some _ x)⟩
end
end PySem
namespace L2
open PySem PySem.Spec PyProof.Rows
/-- the tuple at a, each item in a new pair with its number -/
def Itet (K : PySem.W.Frag) (a : Addr) (n : Nat) : It :=
  ⟨fun i H => ∃ (xs : List V) (x : V), SqT K H a xs ∧ xs.length = n ∧ xs[i]? = some x, fun i H v H' => ∃ T x, v = .ref T ∧ H T = none ∧ H' = upd H T (.tup [.int (i : Nat), x]) ∧ ∀ xs, SqT K H a xs → xs[i]? = some x, fun i H => ∃ xs : List V, SqT K H a xs ∧ xs.length = n ∧ xs.length ≤ i⟩
theorem turn_enumT {P : Program} {w : World} {K : PySem.W.Frag} {elts : List Expr} {kk : Nat} {tpos : Pos} (a e it : Addr) (n : Nat) :
    Turn P w K (.Tuple elts kk tpos) (Itet K a n) [e, it] e (fun i h => (∃ old, IsEnum h e it ((i : Nat) : Int) old) ∧ h.IsTupleIter it a i ∧ e ≠ it ∧ a ≠ it ∧ e ≠ a ∧ i ≤ n) where
  mem := List.mem_cons_self
  obj := fun i h st b hb => by
    obtain ⟨⟨old, he⟩, ⟨o, ho, hc, hd⟩, _⟩ := st
    rcases List.mem_cons.mp hb with z | z
    · subst z; exact ⟨_, he, fun v q => nomatch q⟩
    · rw [List.mem_singleton.mp z]; exact ⟨o, ho, fun v q => by rw [hd] at q; cases q⟩
  keep := fun i h h' ⟨⟨old, he⟩, hi, hne⟩ k => ⟨⟨old, k e List.mem_cons_self _ he⟩, hi.at fun o q => k it (by simp) o q, hne⟩
  item := by
    intro X hP hw hK hc i pins s σ H E I hf st ⟨xs, x, hq, hxn, hx⟩
    subst hP hw hK
    obtain ⟨⟨old, he⟩, hit, n1, n2, n3, n4⟩ := st
    obtain ⟨its, rv, pt, hz⟩ := I.tuple hq
    obtain ⟨u, hu, ru⟩ := rv.get hx
    have le : e < s.heap.objs.size := Heap.lt_size he
    have li : it < s.heap.objs.size := by obtain ⟨_, q, _⟩ := hit; exact Heap.lt_size q
    have hlen : i < its.toArray.size := by
      rw [List.size_toArray]
      exact (List.getElem?_eq_some_iff.mp hu).1
    refine wpAny_pyNext_enum_itemD (Draws.tuple (A := X.A.in1) (show X.A.in1.handled = none from I.ok.hd hc) it a n2 its.toArray) he ⟨hit, show s.heap.IsTuple a its.toArray from pt⟩ hlen n1 (fun z => by rcases List.mem_cons.mp z with z | z; exact n1 z; exact n3 (List.mem_singleton.mp z)) fun y h' tk hy ho hst hT hsz hk => ?_
    obtain ⟨hit', _⟩ := hst
    have ey : y = u := by
      rw [List.getElem?_toArray, hu] at hy
      exact (Option.some.inj hy).symm
    subst ey
    refine ⟨_, rfl, wpAny_letOwnedTupleGo_enum (s := { s with heap := h', toks := tk + 1 }) ho fun h2 he2 sb => ?_⟩
    have hT2 : h2.get? s.heap.objs.size = some { cls := .type "tuple", data := .seq #[.int i tk, y] } := (sb.2 _ (Nat.ne_of_gt le)).trans hT
    have nw : ObjOk X.prog X.w (upd H s.heap.objs.size (.tup [.int (i : Nat), x])) h2 s.heap.objs.size (.tup [.int (i : Nat), x]) := ⟨(show 2 ≤ sizeLine by decide), [.int i tk, y], .cons ⟨_, rfl⟩ (.cons ru .nil), ⟨_, hT2, rfl, _, rfl⟩⟩
    have I1 : Inv X pins σ (upd H s.heap.objs.size (.tup [.int (i : Nat), x])) { s with heap := h2, toks := tk + 1 } := I.turnedNew (ch := [e, it]) (fun b ob hb q => (sb.2 b (fun z => hb (by simp [z]))).trans (hk b ob (fun z => hb (by simp [z])) (fun z => hb (by simp [z])) q)) hf (Nat.le_refl _) nw
    have ei : ((i + 1 : Nat) : Int) = (i : Int) + 1 := by omega
    refine ⟨.ref s.heap.objs.size, _, I1, rfl, ⟨_, x, rfl, I.hok.fresh (Nat.le_refl _), rfl, fun ys hy => by rw [I.tuple_inj hy hq]; exact hx⟩, ⟨⟨y, by rw [ei]; exact he2⟩, hit'.at fun o q => (sb.2 it (Ne.symm n1)).trans q, n1, n2, n3, by have := (List.getElem?_eq_some_iff.mp hx).1; omega⟩, fun b hb => ?_⟩
    have lb : b < s.heap.objs.size := by
      rcases List.mem_cons.mp hb with z | z
      · rw [z]; exact le
      · rw [List.mem_singleton.mp z]; exact li
    rw [upd_ne (Nat.ne_of_lt lb)]
    exact (hf b hb).1
  done := by
    intro X hP hw hK hc i pins s σ H E I hf st ⟨xs, hq, hxn, hx⟩
    subst hP hw hK
    obtain ⟨⟨old, he⟩, hit, n1, n2, n3, n4⟩ := st
    obtain ⟨its, rv, pt, hz⟩ := I.tuple hq
    obtain ⟨f0, f1, f2, f3, f4, f5⟩ := hf it (by simp)
    have hl := rv.length
    have ei : i = its.toArray.size := by
      rw [List.size_toArray]
      omega
    subst ei
    exact wpAny_pyNext_enum_endD (Draws.tuple (A := X.A.in1) (show X.A.in1.handled = none from I.ok.hd hc) it a n2 its.toArray) he ⟨hit, show s.heap.IsTuple a its.toArray from pt⟩ fun h' eb => ⟨rfl, I.turned (t' := s.toks) (fun b o hb q => eb b o hb q) f0 f1 f3 f4 f5⟩
  self := fun A i s Q E ⟨⟨_, he⟩, _⟩ h => wpAny_pyIter_enum he h
def iEnumT (K : PySem.W.Frag) (ta : TA) : TI := fun σ H R => ta σ H fun vs H1 => ∃ a xs, vs = [.ref a] ∧ SqT K H1 a xs ∧ R (Itet K a xs.length) H1
theorem pi_enumT {X : Cx} {e : Expr} {ta : TA} {p pos tpos : Pos} {elts : List Expr} {kk : Nat} (K : PySem.W.Frag) (hK : X.K = K) (hg : Gl X "enumerate") (hm : X.mg "enumerate" = none) (ha : PA X [e] ta) (hs : starEach [e] X.env = [(false, eval e X.env)] := by rfl) :
    PI X (.Tuple elts kk tpos) (.Call (.Name "enumerate" p) [e] [] pos) (iEnumT K ta) := by
  subst hK
  refine ⟨fun pins s σ H R I h => Call_ (ld_blt I hg hm boot_enumerate (PyProof.Rows.callWith_type1 (thn (ha.run pos pins s σ H _ I h) fun us s1 ⟨vs, H1, I1, r1, a, xs, ex, hq, q⟩ => ?_) hs rfl))⟩
  subst ex
  cases r1 with
  | cons r rr =>
    cases rr
    cases r
    obtain ⟨its, rv, pt, hz⟩ := I1.tuple hq
    have la : a < s1.heap.objs.size := by
      obtain ⟨_, e, _⟩ := pt
      exact Heap.lt_size e
    refine call_enumT (show s1.heap.IsTuple a its.toArray from pt) fun h' he hit hk => wpAny_pyIter_enum he ?_
    refine ⟨s1.heap.objs.size + 1, [s1.heap.objs.size + 1, s1.heap.objs.size], _, _, H1, rfl, I1.kept (t' := s1.toks) hk, turn_enumT a (s1.heap.objs.size + 1) s1.heap.objs.size xs.length, ⟨⟨.none, he⟩, hit, Nat.succ_ne_self _, Nat.ne_of_lt la, Nat.ne_of_gt (Nat.lt_succ_of_lt la), Nat.zero_le _⟩, fun b hb => ?_, q⟩
    have hle : s1.heap.objs.size ≤ b := by
      rcases List.mem_cons.mp hb with z | z
      · rw [z]; exact Nat.le_succ _
      · rw [List.mem_singleton.mp z]; exact Nat.le_refl _
    exact I1.fpOk hle (I1.hok.fresh hle)
end L2
namespace SV
open PySem PySem.Spec L2
open Evl (Ex)
section
variable [Tbs]
variable {B : Bs} {K : Fr} {ρ : En} {te : TE} {Z : Zs}
theorem ws_forEnT {α : Type} {g : TG} {tS : TS} (f : α → PyData) (h : WD B K te ρ fun x ρ1 => ∃ as : List α, x = .tuple (as.map f) ∧ Loop B K g tS (enD f) (enL as) ρ1 Z) : WS B K (tFor (iEnumT K (tCons te tNil)) g tS) ρ Z := fun F H σ E D ok =>
  h F H σ E _ fun v x F1 H1 ρ1 E1 e1 rv ⟨as, hx, I, i0, is, id⟩ => by
    subst hx
    cases rv with
    | @tup a vs xs ha ra =>
    have hl : vs.length = as.length := by rw [ra.length, List.length_map]
    have sq : ∀ {F2 H2 : Hp}, Ex F1 F2 → Ex F2 H2 → SqT K H2 a vs := fun e fh => fh.stt (e.stt ha)
    refine ⟨a, vs, rfl, E1.fh.stt ha, loop_gen (f := enD f) (as := enL as) (fun _ => True) E1 e1 ok (fun i p F2 H2 σ2 ρ2 ea E2 e2 _ => ?_) (fun i F2 H2 σ2 ρ2 hi E2 e2 _ => ⟨vs, sq e2 E2.fh, rfl, by rw [enL_len] at hi; omega⟩) (fun i p F2 H2 σ2 ρ2 y H' ea E2 e2 _ hy => ?_) I (fun _ _ _ => trivial) i0 is id⟩
    · obtain ⟨_, h2⟩ := enL_at ea
      obtain ⟨w, hw, _⟩ := at_map' ra h2
      exact ⟨vs, w, sq e2 E2.fh, rfl, hw⟩
    · obtain ⟨h1, h2⟩ := enL_at ea
      obtain ⟨T, w, rfl, hT, rfl, hw⟩ := hy
      unfold enD
      rw [h1]
      exact pair_new E2 hT (.int _) (Rp.mono e2 (at_map ra h2 (hw vs (sq e2 E2.fh))))
/-- what comes behind is out of sight -/
theorem ws_opq {t : TS} (h : ∀ Z' : Zs, (∀ ρ, Z.nx ρ → Z'.nx ρ) → (∀ r ρ, Z.rt r ρ → Z'.rt r ρ) → (∀ ρ, Z.bk ρ → Z'.bk ρ) → (∀ ρ, Z.ct ρ → Z'.ct ρ) → WS B K t ρ Z') : WS B K t ρ Z := h Z (fun _ q => q) (fun _ _ q => q) (fun _ q => q) fun _ q => q
/-- an if whose test says C, else D: each branch once -/
theorem ws_ifC {tc : TT} {t u : TS} (C D : Prop) (h : WT B K tc ρ fun b ρ' => ρ' = ρ ∧ (b = true → C) ∧ (b = false → D)) (h1 : C → WS B K t ρ Z) (h2 : D → WS B K u ρ Z) : WS B K (tIfS tc t u) ρ Z :=
  ws_if (wt_mono h fun b ρ' ⟨e, c, d⟩ => by subst e; exact ⟨fun hb => h1 (c hb), fun hb => h2 (d hb)⟩)
theorem wt_C {C D : Prop} {ρ' : En} {b : Bool} (e : ρ' = ρ) (h : (b = true → C) ∧ (b = false → D)) : ρ' = ρ ∧ (b = true → C) ∧ (b = false → D) := ⟨e, h⟩
end
end SV

set_option maxHeartbeats 1000000
/-! d.setdefault(k, x), d a dict with keys ints and texts -/
namespace SV
open PySem PySem.Spec L2 PyProof.Rows
open Evl (Ex)
section
variable {X : Cx} {pins : List (Addr × Obj)} {σ : L2.St} {H : Hp} {s : Shared} {a : Addr} {kvs : List (Key × V)} {k : Key} {d : V} {u r : Value} {A : Around} {E : Value → Shared → Prop}
theorem d_setdef {Q : Value → Shared → Prop} (I : Inv X pins σ H s) (e : H a = some (.dK kvs)) (hz : kvs.length < lim) (ry : RelV (kV k) u) (rd : RelV d r)
    (h1 : ∀ v w' s', valV kvs k = some v → Inv X pins σ H s' → RelV v w' → Q w' s') (h2 : valV kvs k = none → ∀ s', Inv X pins σ (upd H a (.dK (putK kvs k d))) s' → Q r s') :
    wpAny (model X.prog X.w) A (call (.builtin "dict.setdefault") [.ref a, u, r]) Q E s := by
  obtain ⟨z, hd, vs, rel, dd⟩ := dk_of I.hok e
  have hv := rel.val k
  refine call_meetsIn PySem.F.slot_dict_setdefault dd.typeIs PySem.F.entry_dict_setdefault (PySem.F.args_dict_setdefault_3 _ _ _) (kt_meets_setdefault (mixKind X.prog X.w) a (kV_is ry) hd r)
    ⟨vs, dd, by rw [← rel.length]; exact z, fun w' hw => ?_, fun hn h' dd' hs => ?_⟩
  · rw [hw] at hv
    cases hg : valV kvs k with
    | none => rw [hg] at hv; exact hv.elim
    | some v => rw [hg] at hv; exact h1 v w' _ hg (I.tok _) hv
  · rw [hn] at hv
    cases hg : valV kvs k with
    | some v => rw [hg] at hv; exact hv.elim
    | none =>
      have hl : (putK kvs k d).length ≤ sizeLine := by
        have := length_putK kvs k d
        have h1 : lim + 1 ≤ sizeLine := by rw [sizeLine_eq]; decide
        omega
      have he : ∃ q, h'.get? a = some q := let ⟨q, _, _, hq, _⟩ := dd'; ⟨q, hq⟩
      exact h2 hg _ (d_write I (by rw [e]; exact True.intro) hs he (dk_new hl hd (rel.put k rd) dd'))
end
def tDSd (td ty tx : TE) : TE := fun σ H Q => td σ H fun x H1 => ∃ a, x = .ref a ∧ IsD H1 a ∧ ty σ H1 fun y H2 => tx σ H2 fun z H3 => ∃ (kvs : List (Key × V)) (k : Key), H3 a = some (.dK kvs) ∧ y = kV k ∧ kvs.length < lim ∧
  (∀ v, valV kvs k = some v → Q v H3) ∧ (valV kvs k = none → Q z (upd H3 a (.dK (putK kvs k z))))
theorem pe_dsd {X : Cx} {o e f : Expr} {apos cpos : Pos} {td ty tx : TE} (ho : PE X o td) (he : PE X e ty) (hf : PE X f tx) (m : M2 X o "setdefault" apos e f cpos) : PE X (.Call (.Attribute o "setdefault" apos) [e, f] [] cpos) (tDSd td ty tx) := by
  refine ⟨fun pins s σ H Q I h => ?_⟩
  refine wpAny_Call_method m.base m.few m.line PySem.F.plainAttrs_dict PySem.F.slot_dict_setdefault PySem.F.type_dict_setdefault (thn (ho.run pins s σ H _ I h) fun u s1 ⟨x, H1, I1, rx, a, ex, d, q1⟩ => ?_)
  subst ex
  obtain rfl : u = Value.ref a := rx
  obtain ⟨t1, t2, _⟩ := isD_at I1 d
  refine ⟨t1, t2, ?_⟩
  rw [m.trees]
  refine Calls.callWith_builtin rfl (Calls.evalArgs_plain (Calls.spliced_cons (thn (he.run pins s1 σ H1 _ I1 q1) fun iv s2 ⟨y, H2, I2, ry, q2⟩ =>
    Calls.spliced_cons (thn (hf.run pins s2 σ H2 _ I2 q2) fun fv s3 ⟨z, H3, I3, rz, kvs, k, e, ey, hz, q3, q4⟩ => Calls.spliced_nil ?_))))
  subst ey
  exact d_setdef I3 e hz ry rz (fun v w' s4 hv I4 rv => ⟨v, H3, I4, rv, q3 v hv⟩) fun hn s4 I4 => ⟨z, _, I4, rz, q4 hn⟩
variable [Tbs]
section
variable {B : Bs} {K : Fr} {F H : Hp} {σ : L2.St} {ρ : En} {ty : TE} {Q : R → En → Prop} {Z : Zs}
theorem OtA.getK : ∀ {ks : List Key} {vs : List V} {ts : List OT} {k : Key}, OtA K F H vs ts → (∀ u, SV.getK ks ts k = some u → ∃ v, SV.getK ks vs k = some v ∧ Ot K F H v u) ∧ (SV.getK ks ts k = none → SV.getK ks vs k = none)
  | [], vs, ts, k, _ => by
    have e : ∀ {α : Type} (xs : List α), SV.getK [] xs k = none := fun xs => getK_nil
    rw [e, e]
    exact ⟨(fun u h => nomatch h), fun _ => rfl⟩
  | q :: ks, [], [], k, .nil => ⟨fun u h => (nomatch (show (none : Option OT) = some u from h)), fun _ => rfl⟩
  | q :: ks, v :: vs, t :: ts, k, .cons h r => by
    rw [getK_cons, getK_cons]
    by_cases c : q = k
    · rw [if_pos c, if_pos c]
      exact ⟨(fun u e => by cases e; exact ⟨v, rfl, h⟩), fun e => nomatch e⟩
    · rw [if_neg c, if_neg c]
      exact OtA.getK r
/-- d.setdefault(k, []), d an own dict of own lists -/
theorem we_dsd {j : Nat} {a0 : Addr} {ks0 : List Key} {ts0 : List OT} (hj0 : ρ[j]? = some (some (.deep (.dct a0 ks0 ts0)))) (np : NP B j)
    (h : WD B K ty ρ fun y ρ1 => ∃ k a ks ts, y = keyD k ∧ ρ1[j]? = some (some (.deep (.dct a ks ts))) ∧ ks.length < lim ∧
      ((∃ b us, getK ks ts k = some (.lst b us) ∧ Q (.raw (.ref b)) ρ1) ∨ (k ∉ ks ∧ ∀ b, Q (.raw (.ref b)) (ρ1.set j (some (.deep (.dct a (ks ++ [k]) (ts ++ [.lst b []])))))))) :
    WE B K (tDSd (tVar j) ty (tLst tNil)) ρ Q := fun F H σ E QQ kk => by
  obtain ⟨v0, e0, s0, nd0⟩ := E.sl j _ hj0
  cases s0 with
  | dct g1 g2 gl gs =>
  refine ⟨.ref a0, e0, a0, rfl, .inl ⟨_, .inl g2⟩, h F H σ E _ fun v y F1 H1 ρ1 E1 e1 rv ⟨k, a, ks, ts, hy, hj, hz, q⟩ => ⟨Nat.zero_le _, fun p hp => ?_⟩⟩
  subst hy
  rw [rp_key rv]
  obtain ⟨v1, f0, s1, nd1⟩ := E1.sl j _ hj
  cases s1 with
  | @dct a' ks' vs ts' f1 f2 hl os =>
  rw [e0] at f0
  cases f0
  have hap : a0 ≠ p := fun z => by rw [z, hp] at f2; cases f2
  have hlv : ks.length = vs.length := by rw [os.length]; exact hl
  have E2 : EnvOk B K F1 (upd H1 p (.lst [])) σ ρ1 := E1.allocO hp
  refine ⟨ks.zip vs, k, (upd_ne hap).trans f2, rfl, by rw [List.length_zip, ← hlv, Nat.min_self]; exact hz, fun w hw => ?_, fun hn => ?_⟩
  · rw [valV_get] at hw
    rcases q with ⟨b, us, hg, q⟩ | ⟨hk, _⟩
    · obtain ⟨w', hw', ow⟩ := (os.getK (ks := ks) (k := k)).1 _ hg
      rw [hw] at hw'
      cases hw'
      cases ow with
      | lst _ _ _ => exact kk _ (.raw (.ref b)) F1 _ ρ1 E2 e1 rfl q
    · rw [getK_none hk] at hw
      cases hw
  · rw [valV_get] at hn
    rcases q with ⟨b, us, hg, q⟩ | ⟨hk, q⟩
    · obtain ⟨w', hw', ow⟩ := (os.getK (ks := ks) (k := k)).1 _ hg
      rw [hn] at hw'
      cases hw'
    · rw [putK_zip hlv, (put_new (x := V.ref p) (xs := vs) hk).1, (put_new (x := V.ref p) (xs := vs) hk).2]
      have fa : SFp σ ρ1 j a0 := ⟨_, _, hj, e0, List.mem_cons_self⟩
      have hpf : p ∉ fps ts := fun z => by
        obtain ⟨_, o', e⟩ := os.live z
        rw [hp] at e; cases e
      have ef : (OT.dct a0 (ks ++ [k]) (ts ++ [.lst p []])).fp = a0 :: (fps ts ++ [p]) := by
        show a0 :: fps (ts ++ [.lst p []]) = _
        rw [fps_app]
        rfl
      have ha : a0 ∉ fps ts := (List.nodup_cons.mp (show (a0 :: fps ts).Nodup from nd1)).1
      refine kk _ (.raw (.ref p)) F1 _ _ (E2.put (l' := .deep (.dct a0 (ks ++ [k]) (ts ++ [.lst p []]))) hj e0 (E2.st_write fa) ⟨.dct f1 upd_same ?_ ?_, ?_⟩ (fun i b n hb => upd_ne fun z => n (E2.sep i j b hb (by subst z; exact fa))) (fun b hb => ?_) (.inr (.inr np))) e1 rfl (q p)
      · rw [List.length_append, List.length_append, hl]; rfl
      · refine (os.mono (Ex.refl F1) fun b hb => ⟨(os.live hb).1, ?_⟩).append (.cons (.lst (E1.fh.free hp) ?_ .nil) .nil)
        · rw [upd_ne (fun z => ha (by rw [← z]; exact hb)), upd_ne (fun z => hpf (by rw [← z]; exact hb))]
        · rw [upd_ne (Ne.symm hap)]; exact upd_same
      · rw [ef]
        refine List.nodup_cons.mpr ⟨fun z => ?_, List.nodup_append.mpr ⟨(List.nodup_cons.mp (show (a0 :: fps ts).Nodup from nd1)).2, by simp, fun b hb c hc z => ?_⟩⟩
        · rcases List.mem_append.mp z with z | z
          · exact ha z
          · exact hap (List.mem_singleton.mp z)
        · rw [List.mem_singleton.mp hc] at z
          exact hpf (by rw [← z]; exact hb)
      · have hb' : b ∈ (OT.dct a0 (ks ++ [k]) (ts ++ [.lst p []])).fp := hb
        rw [ef] at hb'
        rcases List.mem_cons.mp hb' with z | z
        · exact .inl (by subst z; exact List.mem_cons_self)
        · rcases List.mem_append.mp z with z | z
          · exact .inl (List.mem_cons_of_mem _ z)
          · rw [List.mem_singleton.mp z]
            exact .inr ⟨E1.h0p hp, fun i => E1.fr hp i⟩
/-- an own dict, by its place -/
theorem ws_deepD {t : TS} {j : Nat} {ks : List Key} {xs : List PyData} (hj : ρ[j]? = some (some (.ownD ks xs))) (np : NP B j) (h : ∀ a, WS B K t (ρ.set j (some (.deep (.dct a ks (xs.map .d))))) Z) : WS B K t ρ Z := fun F H σ E D ok => by
  obtain ⟨a, vs, e, k1, k2, kl, k3⟩ := E.ownD_at hj
  refine h a F H σ (E.put hj e E.st ⟨.dct k1 k2 (by rw [List.length_map]; exact kl) (.of_rp k3), ?_⟩ (fun _ _ _ _ => rfl) (fun b hb => .inl ?_) (.inr (.inr np))) D ok
  · show (a :: fps (xs.map .d)).Nodup
    rw [fps_map_d]; simp
  · have : b ∈ a :: fps (xs.map .d) := hb
    rw [fps_map_d] at this
    rw [List.mem_singleton.mp this]
    rfl
/-- an own dict of data; what it holds is frozen -/
theorem ws_flatD {t : TS} {j : Nat} {a : Addr} {ks : List Key} {ts : List OT} (hj : ρ[j]? = some (some (.deep (.dct a ks ts)))) (np : NP B j) (hd : areD ts = true) (h : WS B K t (ρ.set j (some (.ownD ks (datas ts)))) Z) : WS B K t ρ Z := fun F H σ E D ok => by
  obtain ⟨v, e, E', ⟨r, nd, fr⟩⟩ := E.giveT hj np
  cases r with
  | @dct a' ks' vs ts' f1 f2 hl os =>
  have na : a ∉ fps ts := (List.nodup_cons.mp (show (a :: fps ts).Nodup from nd)).1
  obtain ⟨E2, ef⟩ := E'.freeze (as := fps ts) (fun b hb => fr b (List.mem_cons_of_mem _ hb)) (fun b hb => (os.live hb).1) (fun b hb => os.nt hb)
  have E3 := E2.setN (i := j) (v := .ref a) (l := .ownD ks (datas ts)) ⟨a, vs, rfl, by unfold frz; rw [if_neg na]; exact f1, f2, by rw [datas_len]; exact hl, os.rp ef hd fun b hb => by unfold frz; rw [if_pos hb]⟩ (fun b hb => by cases (show V.ref a = V.ref b from hb); exact fr a List.mem_cons_self) np
  have hl : j < σ.length := (List.getElem?_eq_some_iff.mp e).1
  have e3 : σ.set j (some (.ref a)) = σ := by
    refine List.ext_getElem? fun i => ?_
    by_cases c : i = j
    · subst c; rw [List.getElem?_set_self hl, e]
    · rw [List.getElem?_set_ne (Ne.symm c)]
  rw [e3, List.set_set] at E3
  exact h _ H σ E3 D (ok.up ef)
end
/-! ### a call that only reads own things, or parts of them -/
inductive ArgP (ρ : En) : List Ar → List L → Prop
  | nil : ArgP ρ [] []
  | one {a : Ar} {l : L} {as : List Ar} {ls : List L} : argR ρ [a] = some [l] → ArgP ρ as ls → ArgP ρ (a :: as) (l :: ls)
  | part {j : Nat} {t : OT} {π : List Nat} {a : Addr} {ts : List OT} {as : List Ar} {ls : List L} : ρ[j]? = some (some (.deep t)) → t.at π = some (.lst a ts) → areD ts = true → ArgP ρ as ls → ArgP ρ (.raw (.ref a) :: as) (.d (.list (datas ts)) :: ls)
section
variable {B : Bs} {K : Fr} {F H : Hp} {σ : L2.St} {ρ : En} {ta : TA} {Q : R → En → Prop}
theorem argsP_sl (E : EnvOk B K F H σ ρ) {as : List Ar} {ls : List L} (p : ArgP ρ as ls) : ∀ {vs : List V}, AOks K F σ vs as → vs.length = ls.length ∧ ∀ (i : Nat) (l : L), ls[i]? = some l → (∃ v, vs[i]? = some v ∧ SlotOk K (ntb H) H v l) ∧ l.pl = true := by
  induction p with
  | nil => intro vs h; cases h; exact ⟨rfl, fun i l h => by simp at h⟩
  | @one a l as ls e _ ih =>
    intro vs h
    cases h with
    | @cons v _ vs _ ha hs =>
    obtain ⟨h1, h2⟩ := ih hs
    obtain ⟨g1, g2⟩ := argsR_sl E (vs := [v]) (.cons ha .nil) e
    refine ⟨congrArg (· + 1) h1, fun i l2 h => ?_⟩
    cases i with
    | zero =>
      have z := Option.some.inj h
      subst z
      exact g2 0 _ rfl
    | succ i => exact h2 i l2 h
  | @part j t π a ts as ls hj hat hd _ ih =>
    intro vs h
    cases h with
    | @cons v _ vs _ ha hs =>
    obtain ⟨h1, h2⟩ := ih hs
    refine ⟨congrArg (· + 1) h1, fun i l2 h => ?_⟩
    cases i with
    | zero =>
      have z := Option.some.inj h
      subst z
      obtain ⟨v0, e0, s0, _⟩ := E.sl j _ hj
      obtain ⟨⟨w, hw⟩, _⟩ := Ot.at π s0 hat
      cases (show v = .ref a from ha)
      have hw' : Ot K F H (.ref a) (.lst a ts) := by cases hw with | lst f1 f2 f3 => exact .lst f1 f2 f3
      exact ⟨⟨_, rfl, hw'.rp (ex_ntb E.fh E.st.tf) hd fun b hb => by obtain ⟨_, o, ho⟩ := hw'.live hb; rw [ho]; exact ntb_at ho (hw'.nt hb o ho).1⟩, rfl⟩
    | succ i => exact h2 i l2 h
theorem we_callRP {G : GF} {E : XK} (h : WA B K ta ρ fun as ρ1 => ∃ ls Pe, ArgP ρ1 as ls ∧ G ls (fun r _ => flatR r ∧ Q r ρ1) Pe ∧ ∀ C, Pe C → EK B K E C) : WE B K (tCallR (SpG K none G) E ta) ρ Q := fun F H σ E0 QQ k => ⟨trivial, by
  refine h F H σ E0 _ fun vs as F1 H1 ρ1 E1 e1 av ⟨ls, Pe, ha, hG, hE⟩ => ?_
  · show SpG K none G (vs ++ []) H1 QQ E
    rw [List.append_nil]
    obtain ⟨hl, hs⟩ := argsP_sl E1 ha av
    exact ⟨ntb H1, ntb H1, ls, fun r _ => flatR r ∧ Q r ρ1, Pe, args_pl (ntb_ex H1) ⟨ntb_tf H1, E1.st.tab⟩ hl hs, hG, fun v r F' H' ys st rv _ q => k v r F1 H' ρ1 (E1.over st) e1 (flat_ok E1 st rv q.1) q.2, fun C F' H' ys st _ hC => hE C hC F1 H' σ ρ1 (E1.over st)⟩⟩
end
/-! ### a list of new lists, all alike -/
def rowsT (c : List PyData) (bs : List Addr) : List OT := bs.map fun b => .lst b (c.map .d)
theorem fps_rowsT (c : List PyData) : ∀ bs : List Addr, fps (rowsT c bs) = bs
  | [] => rfl
  | b :: bs => by
    show (b :: fps (c.map .d)) ++ fps (rowsT c bs) = _
    rw [fps_map_d, fps_rowsT c bs]
    rfl
def CompN (K : Fr) (g : TG) (te : TE) (vs : List Nat) (c : List PyData) (as : List Int) (ρ : En) : Prop :=
  ∀ a, a ∈ as → ∀ B : Bs, B.pin.map Prod.fst = none → WG B K g (.int a) (wipeE (hide ρ) vs) fun ρ2 => WE B K te ρ2 fun r _ => r = .new c
section
variable {B : Bs} {K : Fr} {ρ : En} {te : TE} {Q : R → En → Prop}
theorem lc_rows {g : TG} {vs : List Nat} {c : List PyData} {n : Nat} {F0 F1 H1 : Hp} {σ : L2.St} {ρ1 : En} {QQ : VK} (gv : GV g vs) (E1 : EnvOk B K F1 H1 σ ρ1) (e1 : Ex F0 F1) (hz : n ≤ lim) (h : CompN K g te vs c (ixs 0 n) ρ1)
    (k : ∀ v F' H' D bs, EnvOk B K F' H' σ ρ1 → Ex F0 F' → ROk B K F' H' σ ρ1 v (.deep (.lst D (rowsT c bs))) → bs.length = n → QQ v H') : ∀ D, H1 D = none → ∃ W : Nat → Nat → Hp → Prop, (∃ m, W 0 m (upd H1 D (.lst []))) ∧ ∀ i m H, W i m H →
      ((Itr 0 n).stop i H ∧ QQ (.ref D) H) ∨ ((Itr 0 n).go i H ∧ ∃ Nx : Hp → Prop, (∀ H', Nx H' → ∃ m', m' < m ∧ W (i + 1) m' H') ∧ ∀ x H', (Itr 0 n).yld i H x H' → g x (wipe σ vs) H' fun σ2 H2 => wipe σ2 vs = wipe σ vs ∧ tYes σ2 H2 fun b H3 =>
        if b = true then te σ2 H3 fun y H4 => ∃ acc, H4 D = some (.lst acc) ∧ acc.length < sizeLine ∧ Nx (upd H4 D (.lst (acc ++ [y]))) else Nx H3) := by
  intro D hD
  have hs : ∀ i, ¬ SFp σ ρ1 i D := fun i => E1.fr hD i
  have h0 : B.H0 D = none := E1.h0p hD
  let I : Nat → Hp → Prop := fun i H => ∃ F acc bs, EnvOk B K F H σ ρ1 ∧ Ex F1 F ∧ F D = none ∧ H D = some (.lst acc) ∧ OtA K F H acc (rowsT c bs) ∧ bs.Nodup ∧ (∀ b, b ∈ bs → B.H0 b = none ∧ ∀ i, ¬ SFp σ ρ1 i b) ∧ D ∉ bs ∧ bs.length = i
  refine ⟨fun i m H => m = n - i ∧ i ≤ n ∧ I i H, ⟨n, (Nat.sub_zero _).symm, Nat.zero_le _, F1, [], [], E1.allocO hD, Ex.refl F1, E1.fh.free hD, upd_same, .nil, .nil, (fun _ h => nomatch h), (fun h => nomatch h), rfl⟩, ?_⟩
  rintro i m H2 ⟨rfl, hi, F2, acc, bs, E2, e2, fD, hD2, os, nd, fr, nD, hl⟩
  by_cases hlt : i < n
  · refine .inr ⟨hlt, I (i + 1), fun H' p' => ⟨n - (i + 1), by omega, rfl, hlt, p'⟩, fun x H' y => ?_⟩
    obtain ⟨rfl, rfl⟩ := y
    have mem : (0 : Int) + (i : Int) ∈ ixs 0 n := List.mem_of_getElem? (i := i) (by rw [ixs_at, if_pos hlt])
    refine gv.stay (h _ mem _ rfl F2 _ _ _ (E2.inner vs) (Rp.int _) (fun σ2 H3 => te σ2 H3 fun y H4 => ∃ acc, H4 D = some (.lst acc) ∧ acc.length < sizeLine ∧ I (i + 1) (upd H4 D (.lst (acc ++ [y])))) fun F3 H3 σ3 ρ3 E3 e3 q3 => ?_) fun σ3 H3 hl hk q => ⟨wipe_eq (by rw [hl, wipe_length]) hk, q⟩
    refine q3 F3 H3 σ3 E3 _ fun v r F5 H5 ρ5 E5 e5 rv q5 => ?_
    subst q5
    obtain ⟨a, ws, rfl, k1, k2, k3, k4, k5⟩ := rv
    have st := E5.st.stp
    have E6 := E2.step st
    have hD5 := st.eh D _ hD2 (nt_lst _).1
    have fD5 := st.nf D fD (ntb_live hD2 (nt_lst _).1)
    have hlive : ∀ b, b ∈ bs → F2 b = none ∧ ∃ o, _ = some o ∧ NT o := fun b hb => by
      have hb' : b ∈ fps (rowsT c bs) := by rw [fps_rowsT]; exact hb
      obtain ⟨z1, o, z2⟩ := os.live hb'
      exact ⟨z1, o, z2, os.nt hb' o z2⟩
    obtain ⟨f1, f2⟩ := E2.fr2 a k4
    have naD : a ≠ D := fun z => by subst z; exact absurd k4 (ntb_live hD2 (nt_lst _).1)
    have nab : a ∉ bs := fun z => by
      obtain ⟨_, o, z2, z3⟩ := hlive a z
      exact absurd k4 (ntb_live z2 z3.1)
    have hbD : ∀ b, b ∈ bs → b ≠ D := fun b hb z => nD (by rw [← z]; exact hb)
    refine ⟨acc, hD5, ?_, F5, acc ++ [.ref a], bs ++ [a], E6.poke fD5 h0 hs (fun u e => by rw [hD5] at e; cases e; exact nt_lst _), e2.trans st.ef, fD5, upd_same, ?_, ?_, fun b hb => ?_, fun z => ?_, by rw [List.length_append, hl]; rfl⟩
    · have := os.length
      unfold rowsT at this
      rw [List.length_map] at this
      rw [this]
      exact lim_lt (by omega)
    · unfold rowsT
      rw [List.map_append]
      refine (os.mono st.ef fun b hb => ?_).append (.cons (.lst k1 ((upd_ne naD).trans k2) (.of_rp k3)) .nil)
      rw [fps_rowsT] at hb
      obtain ⟨z1, o, z2, z3⟩ := hlive b hb
      exact ⟨st.nf b z1 (ntb_live z2 z3.1), by rw [upd_ne (hbD b hb), st.eh b o z2 z3.1, z2]⟩
    · exact List.nodup_append.mpr ⟨nd, by simp, fun x hx y hy z => nab (by rw [← List.mem_singleton.mp hy, ← z]; exact hx)⟩
    · rcases List.mem_append.mp hb with hb | hb
      · exact fr b hb
      · rw [List.mem_singleton.mp hb]; exact ⟨f1, f2⟩
    · rcases List.mem_append.mp z with z | z
      · exact nD z
      · exact naD (List.mem_singleton.mp z).symm
  · have e : i = n := by omega
    subst e
    refine .inl ⟨Nat.le_refl _, k _ F2 H2 D bs E2 (e1.trans e2) ⟨.lst fD hD2 os, ?_, fun b hb => ?_⟩ hl⟩
    · show (D :: fps (rowsT c bs)).Nodup
      rw [fps_rowsT]
      exact List.nodup_cons.mpr ⟨nD, nd⟩
    · have hb' : b ∈ D :: fps (rowsT c bs) := hb
      rw [fps_rowsT] at hb'
      rcases List.mem_cons.mp hb' with rfl | hb
      · exact ⟨h0, hs⟩
      · exact fr b hb
theorem we_lc1N {tn : TE} {g : TG} {vs : List Nat} (c : List PyData) (gv : GV g vs) (h : WD B K tn ρ fun x ρ1 => ∃ n : Int, x = .int n ∧ -1000000 ≤ n ∧ n ≤ 1000000 ∧ CompN K g te vs c (ixs 0 n.toNat) ρ1 ∧ ∀ D bs, List.length bs = n.toNat → Q (.deep (.lst D (rowsT c bs))) ρ1) :
    WE B K (tLc (iRng1 (tCons tn tNil)) g tYes te vs) ρ Q := fun F H σ E QQ k =>
  h F H σ E _ fun v x F1 H1 ρ1 E1 e1 rv ⟨n, hx, n0, n1, hc, q⟩ => by
    subst hx
    cases rv
    exact ⟨n, rfl, by omega, by omega, lc_rows gv E1 e1 (by show n.toNat ≤ 1000000; omega) hc fun v F2 H2 D bs E2 e2 rv2 hl => k v _ F2 H2 ρ1 E2 e2 rv2 (q D bs hl)⟩
end
/-! ### t + u, tuples that are not empty -/
theorem k_catT {X : Cx} (K : Fr) (h : X.K = K := by rfl) : OpR X (binaryOp .Add) (rCatT K) := h ▸ op_catT
theorem wd_catT {B : Bs} {K : Fr} {ρ : En} {ta tb : TE} {QD : PyData → En → Prop} (h : WD B K ta ρ fun x ρ1 => ∃ xs, x = .tuple xs ∧ WD B K tb ρ1 fun y ρ2 => ∃ ys, y = .tuple ys ∧ (xs ≠ [] ∧ ys ≠ [] ∧ xs.length + ys.length ≤ lim) ∧ QD (.tuple (xs ++ ys)) ρ2) : WD B K (tOp (rCatT K) ta tb) ρ QD := fun F H σ E QQ k =>
  h F H σ E _ fun v x F1 H1 ρ1 E1 e1 rv ⟨xs, hx, q⟩ => q F1 H1 σ E1 _ fun u y F2 H2 ρ2 E2 e2 ru ⟨ys, hy, ⟨n1, n2, hl⟩, q2⟩ => by
    subst hx hy
    have rv' := Rp.mono e2 rv
    cases rv' with
    | @tup a vs _ ha ra =>
    cases ru with
    | @tup b ws _ hb rb =>
    refine ⟨a, b, vs, ws, rfl, rfl, E2.fh.stt ha, E2.fh.stt hb, fun z => ?_, by rw [ra.length, rb.length]; exact lim_le hl, fun z => ?_, fun _ p hp => ?_⟩
    · subst z
      cases ra
      exact n1 rfl
    · subst z
      cases rb
      exact absurd rfl n2
    · obtain ⟨E4, e4⟩ := E2.alloc (o := .tup (vs ++ ws)) hp
      exact k _ _ _ _ ρ2 E4 ((e1.trans e2).trans e4) (.tup (.inl (.inl upd_same)) ((ra.append rb).mono e4)) q2
end SV

set_option maxHeartbeats 1000000
/-! xs.count(x), list(range(n)), reversed(xs), x in xs and xs.index(x) over any data -/
namespace SV
open PySem PySem.Spec L2 PyProof.Rows
open Evl (Ex)
variable [Tbs]
theorem _root_.L2.Room.units65 {k : Nat} {A : Around} (r : Room k A) : A.units + 65 < cLine := by have := r.un; omega
theorem k_lcount {X : Cx} (K : Fr) (h : X.K = K := by rfl) : MtR X "list.count" (rCntI K) := h ▸ mt_lcount
theorem k_inD {X : Cx} (K : Fr) (h : X.K = K) (hu : X.A.units + 65 < cLine) : OpR X (compareOp .In) (rInD K) := h ▸ op_inD hu
theorem k_indexD {X : Cx} (K : Fr) (h : X.K = K) (hu : X.A.units + 65 < cLine) : MtR X "list.index" (rIndexD K) := h ▸ mt_indexD hu
/-! xs.extend(t), t a tuple -/
theorem ext_tup (l b : Addr) (us ws : Array Value) (n m : Nat) (dd : Option Addr) (ss : Array (Option Value)) (c0 : ¬(!us.isEmpty && Builtin.List.listTooLong (us.size + ws.size)) = true) (c1 : us.size ≤ sizeLine) (c2 : us.size + ws.size ≤ sizeLine + 1) :
    Meets (Builtin.«list.extend» ⟨[.ref l, .ref b], []⟩) (fun _ R s => s.heap.get? l = some ⟨.type "list", none, .seq us n, #[]⟩ ∧ s.heap.get? b = some ⟨.type "tuple", dd, .seq ws m, ss⟩ ∧ R (.ok (.ret Value.none)) { s with heap := s.heap.update l (Obj.mapSeq fun x => x ++ ws), toks := s.toks }) := by
  refine Meets.of_wp fun prog w A R s q => ?_
  obtain ⟨hp, g, d, tk, os⟩ := s
  obtain ⟨k1, k2, q⟩ := q
  have f1 := PySem.AutoSeq1.idx_int
  have f2 := PySem.AutoSeq1.sub_tuple_tuple
  have f3 := PySem.AutoSeq1.sub_list_list
  have f4 := PySem.AutoSeq1.sub_tuple_list
  have f5 := PySem.AutoSeq1.sub_list_tuple
  have z2 : (us ++ ws).size ≤ sizeLine + 1 := by rw [Array.size_append]; exact c2
  wp_walk using (wpAny_updateSeq k1 rfl (hz := c1) (_hz' := z2)), PySem.AutoSeq1.wpAny_loadPart' k1, PySem.AutoSeq1.wpAny_loadPart' k2
  exact ⟨_, rfl, q⟩
def rExtT (K : Fr) : V → List V → Hp → VK → Prop := fun x vs H Q => ∃ l b xs zs, x = .ref l ∧ vs = [.ref b] ∧ H l = some (.lst xs) ∧ SqT K H b zs ∧ xs.length + zs.length ≤ sizeLine ∧ Q .non (upd H l (.lst (xs ++ zs)))
theorem mt_extT {X : Cx} : MtM X "list.extend" (rExtT X.K) := by
  intro pins s σ H x vs v us Q I rx rv h
  obtain ⟨l, b, xs, zs, rfl, rfl, hH, hB, hz, q⟩ := h
  cases rx
  obtain ⟨u, rfl, ru⟩ := rv.one
  cases ru
  obtain ⟨z, its, n, r, hl, e⟩ := I.lstM hH
  obtain ⟨its2, r2, ⟨o, e2, hc, n2, hd⟩, _⟩ := I.tuple hB
  obtain ⟨oc, od, oa, os⟩ := o
  cases (show oc = _ from hc)
  cases (show oa = _ from hd)
  have w1 : its.toArray.size + its2.toArray.size ≤ sizeLine := by
    have := r2.length
    rw [List.size_toArray, List.size_toArray]
    omega
  have w2 : ¬ (!its.toArray.isEmpty && Builtin.List.listTooLong (its.toArray.size + its2.toArray.size)) = true := by
    rw [notLongL w1, Bool.and_false]
    exact fun z => nomatch z
  refine call_meets PySem.F.slot_list_extend ⟨_, e, rfl⟩ PySem.F.entry_list_extend (PySem.F.args_list_extend_2 _ _) (ext_tup l b its.toArray its2.toArray n n2 od os w2 (by rw [List.size_toArray]; omega) (by omega)) ⟨e, e2, ?_⟩
  refine ⟨.non, _, I.lset (its' := its ++ its2) hH e (by simp) (r.append r2) ?_, rfl, q⟩
  rw [List.length_append]
  omega
theorem k_extT {X : Cx} (K : Fr) (h : X.K = K := by rfl) : MtM X "list.extend" (rExtT K) := h ▸ mt_extT
section
variable {B : Bs} {K : Fr} {ρ : En} {ta tb te : TE} {Q : R → En → Prop} {QD : PyData → En → Prop} {Z : Zs}
theorem we_count {j : Nat} {zs : List PyData} (hj : ρ[j]? = some (some (.own zs))) (h : WD B K te ρ fun x ρ1 => ∃ (ns : List Int) (i : Int), ρ1[j]? = some (some (.own (ns.map .int))) ∧ x = .int i ∧ QD (.int (ns.count i : Nat)) ρ1) : WD B K (tBM K "list" (rCntI K) (tVar j) (tCons te tNil)) ρ QD := fun F H σ E QQ k => by
  obtain ⟨a, vs, e, _, k2, _⟩ := E.own_at hj
  refine ⟨.ref a, e, .inl ⟨rfl, vs, .inl (.inl k2)⟩, h F H σ E _ fun v x F1 H1 ρ1 E1 e1 rv ⟨ns, i, hx, hi, q⟩ => ?_⟩
  subst hi
  cases rv
  obtain ⟨a', ws, e', m1, m2, m3⟩ := E1.own_at hx
  rw [e] at e'
  cases e'
  have e3 := m3.ints
  subst e3
  exact ⟨a, ns, i, rfl, rfl, .inl (.inl m2), k _ _ F1 _ _ E1 e1 (.int _) q⟩
theorem rgV_ixs {n : Int} : rgV 0 n = (ixs 0 n.toNat).map V.int := by
  unfold rgV ixs
  rw [Int.sub_zero, List.map_map]
  rfl
theorem we_listRg (h : WD B K te ρ fun x ρ1 => ∃ n : Int, x = .int n ∧ -1000000 ≤ n ∧ n ≤ 1000000 ∧ Q (.new ((ixs 0 n.toNat).map .int)) ρ1) : WE B K (tLstRg (tRg1 te)) ρ Q := fun F H σ E QQ k =>
  h F H σ E _ fun v x F1 H1 ρ1 E1 e1 rv ⟨n, hx, n0, n1, q⟩ => by
    subst hx
    cases rv
    refine ⟨n, rfl, ⟨by decide, by decide, by omega, by omega, by omega⟩, fun p hp => ?_⟩
    rw [rgV_ixs]
    obtain ⟨E2, r2⟩ := new_ok E1 hp (RpA.of_ints (K := K) (F := F1) (ixs 0 n.toNat))
    exact k _ _ F1 _ ρ1 E2 e1 r2 q
theorem ws_forRev {α : Type} {g : TG} {tS : TS} (f : α → PyData) (h : WD B K te ρ fun x ρ1 => ∃ as : List α, x = .list (as.map f) ∧ Loop B K g tS f as.reverse ρ1 Z) : WS B K (tFor (iRev K (tCons te tNil)) g tS) ρ Z := fun F H σ E D ok =>
  h F H σ E _ fun v x F1 H1 ρ1 E1 e1 rv ⟨as, hx, I, i0, is, id⟩ => by
    subst hx
    cases rv with
    | @lst a vs xs ha ra =>
    have hl : vs.length = as.length := by rw [ra.length, List.length_map]
    have rr : ∀ {i : Nat} {b : α}, as.reverse[i]? = some b → i < as.length ∧ as[as.length - 1 - i]? = some b := fun {i b} e => by
      have hi := (List.getElem?_eq_some_iff.mp e).1
      rw [List.length_reverse] at hi
      exact ⟨hi, by rw [← List.getElem?_reverse hi]; exact e⟩
    have sq : ∀ {F2 H2 : Hp}, Ex F1 F2 → Ex F2 H2 → SqL K H2 a vs := fun e fh => .inl (.inl (fh _ _ (e _ _ ha)))
    refine ⟨a, vs, rfl, .inl (.inl (E1.fh _ _ ha)), loop_gen (f := f) (as := as.reverse) (fun _ => True) E1 e1 ok (fun i b F2 H2 σ2 ρ2 ea E2 e2 _ => ?_) (fun i F2 H2 σ2 ρ2 hi E2 e2 _ => ?_) (fun i b F2 H2 σ2 ρ2 y H' ea E2 e2 _ hy => ?_) I (fun _ _ _ => trivial) i0 is id⟩
    · obtain ⟨h1, h2⟩ := rr ea
      obtain ⟨w, hw, _⟩ := at_map' ra h2
      exact ⟨by omega, vs, w, sq e2 E2.fh, by rw [hl]; exact hw⟩
    · rw [List.length_reverse] at hi
      show vs.length ≤ i
      omega
    · obtain ⟨rfl, hy⟩ := hy
      obtain ⟨h1, h2⟩ := rr ea
      have h3 := hy vs (sq e2 E2.fh)
      rw [hl] at h3
      exact ⟨F2, E2, Ex.refl F2, Rp.mono e2 (at_map ra h2 h3)⟩
theorem we_extT {j : Nat} {zs : List PyData} (hj : ρ[j]? = some (some (.own zs))) (h : WD B K te ρ fun y ρ1 => ∃ xs ys, ρ1[j]? = some (some (.own xs)) ∧ y = .tuple ys ∧ xs.length + ys.length ≤ lim ∧ Q (.d .none) (ρ1.set j (some (.own (xs ++ ys))))) : WE B K (tBM K "list" (rExtT K) (tVar j) (tCons te tNil)) ρ Q := fun F H σ E QQ k => by
  obtain ⟨a, vs, e, _, k2, _⟩ := E.own_at hj
  refine ⟨.ref a, e, .inl ⟨rfl, vs, .inl (.inl k2)⟩, h F H σ E _ fun v y F1 H1 ρ1 E1 e1 rv ⟨xs, ys, hx, hy, hz, q⟩ => ?_⟩
  subst hy
  obtain ⟨a', ws, e', m1, m2, m3⟩ := E1.own_at hx
  rw [e] at e'
  cases e'
  cases rv with
  | @tup b us ys hb rb =>
  have E2 := E1.write hx e (m3.append rb)
  exact ⟨a, b, ws, us, rfl, rfl, m2, E1.fh.stt hb, by rw [m3.length, rb.length]; exact lim_le hz, k _ (.d .none) F1 _ _ E2 e1 Rp.non q⟩
/-- x in xs -/
theorem wd_inD (h : WD B K ta ρ fun x ρ1 => WD B K tb ρ1 fun y ρ2 => ∃ ds, y = .list ds ∧ (noD x = true ∧ noDs ds = true ∧ SeqAt.shaped x = true ∧ SeqAt.shaped (.list ds) = true) ∧ QD (.bool (ds.any fun z => PyData.eqv z x)) ρ2) : WD B K (tOp (rInD K) ta tb) ρ QD := fun F H σ E QQ k =>
  h F H σ E _ fun v x F1 H1 ρ1 E1 e1 rv q => q F1 H1 σ E1 _ fun u y F2 H2 ρ2 E2 e2 ru ⟨ds, hy, ⟨n1, n2, s1, s2⟩, q2⟩ => by
    subst hy
    exact ⟨x, ds, Rp.dp E2.fh (Rp.mono e2 rv) n1, Rp.dp E2.fh ru (by unfold noD; exact n2), s1, s2, k _ _ F2 H2 ρ2 E2 (e1.trans e2) (.bl _) q2⟩
end
end SV

set_option maxHeartbeats 1000000
/-! t + u of any tuples -/
namespace SV
open PySem PySem.Spec L2
open Evl (Ex)
variable [Tbs]
theorem k_catA {X : Cx} (K : Fr) (h : X.K = K := by rfl) : OpR X (binaryOp .Add) (rCatA K) := h ▸ op_catA
theorem wd_catA {B : Bs} {K : Fr} {ρ : En} {ta tb : TE} {QD : PyData → En → Prop} (h : WD B K ta ρ fun x ρ1 => ∃ xs, x = .tuple xs ∧ WD B K tb ρ1 fun y ρ2 => ∃ ys, y = .tuple ys ∧ xs.length + ys.length ≤ lim ∧ QD (.tuple (xs ++ ys)) ρ2) : WD B K (tOp (rCatA K) ta tb) ρ QD := fun F H σ E QQ k =>
  h F H σ E _ fun v x F1 H1 ρ1 E1 e1 rv ⟨xs, hx, q⟩ => q F1 H1 σ E1 _ fun u y F2 H2 ρ2 E2 e2 ru ⟨ys, hy, hl, q2⟩ => by
    subst hx hy
    have rv' := Rp.mono e2 rv
    cases rv' with
    | @tup a vs _ ha ra =>
    cases ru with
    | @tup b ws _ hb rb =>
    refine ⟨a, b, vs, ws, rfl, rfl, E2.fh.stt ha, E2.fh.stt hb, by rw [ra.length, rb.length]; exact lim_le hl, fun z => ?_, fun _ z => ?_, fun _ _ p hp => ?_⟩
    · subst z
      cases ra
      exact k _ _ _ _ ρ2 E2 (e1.trans e2) (.tup hb rb) q2
    · subst z
      cases rb
      rw [List.append_nil] at q2
      exact k _ _ _ _ ρ2 E2 (e1.trans e2) (.tup ha ra) q2
    · obtain ⟨E4, e4⟩ := E2.alloc (o := .tup (vs ++ ws)) hp
      exact k _ _ _ _ ρ2 E4 ((e1.trans e2).trans e4) (.tup (.inl (.inl upd_same)) ((ra.append rb).mono e4)) q2
end SV

set_option maxHeartbeats 1000000
/-! str(i); a def that calls itself: no promise at depth 0 -/
namespace SV
open PySem PySem.Spec L2
open Evl (Ex)
variable [Tbs]
theorem wd_strI {B : Bs} {K : Fr} {ρ : En} {te : TE} {QD : PyData → En → Prop} (h : WD B K te ρ fun x ρ1 => ∃ i, x = .int i ∧ i.natAbs.log2 < 1920 ∧ QD (.str (toString i)) ρ1) : WD B K (tCB (fun xs H Q => ∃ i, xs = [.int i] ∧ i.natAbs.log2 < 1920 ∧ Q (.str (toString i)) H) (tCons te tNil)) ρ QD := fun F H σ E QQ k =>
  h F H σ E _ fun v x F1 H1 ρ1 E1 e1 rv ⟨i, hx, hz, q⟩ => by
    subst hx
    cases rv
    exact ⟨i, rfl, hz, k _ _ F1 H1 ρ1 E1 e1 (.str _) q⟩
theorem fn_none {P : Program} {w : World} {K : Fr} {mg : Str → Option Value} {base : Heap} {CX : CXT} {k : Nat} {f : Addr} {fd : FuncData} {ps : List Str} {pin : Option Nat} {G : GF} (h : ∀ ls Po Pe, ¬ G ls Po Pe) : FnOk P w K mg base CX k f fd ps (SpG K pin G) :=
  ⟨fun vs H Q E q => by obtain ⟨_, _, _, _, _, _, g, _⟩ := q; exact absurd g (h _ _ _), fun A outer s H args us vs Q E hr he hb hv q => by obtain ⟨_, _, _, _, _, _, g, _⟩ := q; exact absurd g (h _ _ _)⟩
theorem spg_imp {K : Fr} {pin : Option Nat} {G G' : GF} (h : ∀ ls Po Pe, G' ls Po Pe → G ls Po Pe) : ∀ vs H Q E, SpG K pin G' vs H Q E → SpG K pin G vs H Q E := fun vs H Q E q => by
  obtain ⟨F, H0, ls, Po, Pe, a, g, r⟩ := q
  exact ⟨F, H0, ls, Po, Pe, a, h _ _ _ g, r⟩
end SV

set_option maxHeartbeats 1000000
/-! for x, y in zip(t, l): t a tuple, l a list, of one length -/
namespace SV
open PySem PySem.Spec L2 PyProof.Rows
open Evl (Ex)
/-- the turns -/
def ItzM (K : Fr) (a b : Addr) (n : Nat) : It where
  go := fun i H => i < n ∧ ∃ (us ws : List V) (p q : V), (SqT K H a us ∧ us[i]? = some p) ∧ SqL K H b ws ∧ ws[i]? = some q
  yld := fun i H v H' => ∃ N p q, (v = .ref N ∧ H N = none ∧ H' = upd H N (.tup [p, q])) ∧ (∀ us, SqT K H a us → us[i]? = some p) ∧ ∀ ws, SqL K H b ws → ws[i]? = some q
  stop := fun i H => n ≤ i ∧ ∃ us ws : List V, (SqT K H a us ∧ us.length = n) ∧ SqL K H b ws ∧ ws.length = n
theorem five {z t o i j c : Addr} (h : c ∈ [z, t, o, i, j]) : c = z ∨ c = t ∨ c = o ∨ c = i ∨ c = j := by simpa using h
theorem sepM {z t o i j a b : Addr} (D : ZipApart z t o i j a b) : ZipSep2 z t o i j [i, a] [j, b] where
  TIz := D.TIz
  TOz := D.TOz
  TITO := D.TITO
  TIi1 := D.TIi1
  mem1 := List.mem_cons_self
  zf1 := fun h => by simp only [List.mem_cons, List.not_mem_nil, or_false] at h; exact h.elim (fun e => D.i1z e.symm) fun e => D.l1z e.symm
  Tf1 := fun h => by simp only [List.mem_cons, List.not_mem_nil, or_false] at h; exact h.elim (fun e => D.TOi1 e) fun e => D.l1TO e.symm
  TIi2 := D.TIi2
  mem2 := List.mem_cons_self
  zf2 := fun h => by simp only [List.mem_cons, List.not_mem_nil, or_false] at h; exact h.elim (fun e => D.i2z e.symm) fun e => D.l2z e.symm
  Tf2 := fun h => by simp only [List.mem_cons, List.not_mem_nil, or_false] at h; exact h.elim (fun e => D.TOi2 e) fun e => D.l2TO e.symm
  sep1_2 := fun h => by simp only [List.mem_cons, List.not_mem_nil, or_false] at h; exact h.elim D.i12 fun e => D.l2i1 e.symm
  sep2_1 := fun h => by simp only [List.mem_cons, List.not_mem_nil, or_false] at h; exact h.elim (fun e => D.i12 e.symm) fun e => D.l1i2 e.symm
theorem turn_zipM {P : Program} {w : World} {K : Fr} {es : List Expr} {m : Nat} {tp : Pos} {a b z t o i j : Addr} (n : Nat) (D : ZipApart z t o i j a b) :
    Turn P w K (.Tuple es m tp) (ItzM K a b n) [z, t, o, i, j] z (fun k h => (k ≤ n ∧ IsZip h z t o .none ∧ IsPair h t (.ref i) (.ref j) ∧ ∃ x y, IsPair h o x y) ∧ h.IsTupleIter i a k ∧ h.IsListIter j b k) where
  mem := List.mem_cons_self
  obj := fun k h st c hc => by
    obtain ⟨⟨kn, k1, k2, x, y, k3⟩, ⟨o1, e1, _, d1⟩, o2, e2, _, d2⟩ := st
    rcases five hc with q | q | q | q | q <;> subst q
    · exact ⟨_, k1, fun v q => nomatch q⟩
    · exact ⟨_, k2, fun v q => nomatch q⟩
    · exact ⟨_, k3, fun v q => nomatch q⟩
    · exact ⟨o1, e1, fun v q => by rw [d1] at q; cases q⟩
    · exact ⟨o2, e2, fun v q => by rw [d2] at q; cases q⟩
  keep := fun k h h' st kp => by
    obtain ⟨⟨kn, k1, k2, x, y, k3⟩, s1, s2⟩ := st
    exact ⟨⟨kn, kp z (by simp) _ k1, kp t (by simp) _ k2, x, y, kp o (by simp) _ k3⟩, s1.at fun u q => kp i (by simp) u q, s2.at fun u q => kp j (by simp) u q⟩
  item := by
    intro X hP hw hK hc k pins s σ H E I hf st hg
    subst hP hw hK
    obtain ⟨⟨kn, k1, k2, x0, y0, k3⟩, s1, s2⟩ := st
    obtain ⟨g0, us, ws, p, q, ⟨g1, g2⟩, g3, g4⟩ := hg
    obtain ⟨its, r1, p1, _⟩ := I.tuple g1
    obtain ⟨its2, r2, p2, _⟩ := I.list g3
    have l1 := r1.length
    have l2 := r2.length
    have b1 := (List.getElem?_eq_some_iff.mp g2).1
    have b2 := (List.getElem?_eq_some_iff.mp g4).1
    have D1 : Draws X.prog X.w X.A.in1 i [i, a] its.toArray.size _ _ := Draws.tuple (show X.A.in1.handled = none from I.ok.hd hc) i a D.l1i1 its.toArray
    have D2 : Draws X.prog X.w X.A.in1 j [j, b] its2.toArray.size _ _ := Draws.list (show X.A.in1.handled = none from I.ok.hd hc) j b D.l2i2 its2.toArray
    have hzl : z < s.heap.objs.size := Heap.lt_size k1
    refine wpAny_pyNext_zipD2_item (i := k) (sepM D) D1 D2 k1 k2 k3 ⟨s1, p1⟩ ⟨s2, p2.isList⟩ (by rw [List.size_toArray]; omega) (by rw [List.size_toArray]; omega) fun v1 v2 h' tk y1 y2 z' o' n1 n2 hN hsz hk => ?_
    obtain ⟨u1, f1, ru1⟩ := r1.get g2
    obtain ⟨u2, f2, ru2⟩ := r2.get g4
    have w1 : v1 = u1 := by
      have : its.toArray[k]? = some v1 := y1
      rw [List.getElem?_toArray, f1] at this
      exact (Option.some.inj this).symm
    have w2 : v2 = u2 := by
      have : its2.toArray[k]? = some v2 := y2
      rw [List.getElem?_toArray, f2] at this
      exact (Option.some.inj this).symm
    subst w1 w2
    refine ⟨_, rfl, wpAny_letOwnedTupleGo_zip (s := { s with heap := h', toks := tk }) z' fun h2 z2 sb => ?_⟩
    have hN2 : h2.get? s.heap.objs.size = some { cls := .type "tuple", data := .seq #[v1, v2] } := (sb.2 _ (Nat.ne_of_gt hzl)).trans hN
    have nw : ObjOk X.prog X.w (upd H s.heap.objs.size (.tup [p, q])) h2 s.heap.objs.size (.tup [p, q]) := ⟨show 2 ≤ sizeLine by decide, [v1, v2], .cons ru1 (.cons ru2 .nil), ⟨_, hN2, rfl, _, rfl⟩⟩
    have kp : ∀ c u, c ∉ [z, t, o, i, j] → s.heap.get? c = some u → h2.get? c = some u := fun c u hb q => (sb.2 c fun e => hb (by simp [e])).trans (hk c u (fun e => hb (by simp [e])) (fun e => hb (by simp [e])) (fun e => hb (by simp [e])) (fun e => hb (by simp [e])) q)
    have I1 : Inv X pins σ (upd H s.heap.objs.size (.tup [p, q])) { s with heap := h2, toks := tk } := I.turnedNew (t' := tk) (ch := [z, t, o, i, j]) kp hf (Nat.le_refl _) nw
    refine ⟨.ref s.heap.objs.size, _, I1, rfl, ⟨_, p, q, ⟨rfl, I.hok.fresh (Nat.le_refl _), rfl⟩, fun l hl => by rw [I.tuple_inj hl g1]; exact g2, fun l hl => by rw [I.list_inj hl g3]; exact g4⟩, ⟨⟨g0, z2, ?_, v1, v2, ?_⟩, ?_, ?_⟩, fun c hcm => ?_⟩
    · exact (sb.2 _ D.TIz).trans (hk _ _ D.TIz D.TITO D.TIi1 D.TIi2 k2)
    · exact (sb.2 _ D.TOz).trans o'
    · exact n1.1.at fun u q => (sb.2 _ D.i1z).trans q
    · exact n2.1.at fun u q => (sb.2 _ D.i2z).trans q
    · have hlt : c < s.heap.objs.size := by
        obtain ⟨_, e1, _⟩ := s1
        obtain ⟨_, e2, _⟩ := s2
        rcases five hcm with e | e | e | e | e <;> subst e
        · exact hzl
        · exact Heap.lt_size k2
        · exact Heap.lt_size k3
        · exact Heap.lt_size e1
        · exact Heap.lt_size e2
      rw [upd_ne (Nat.ne_of_lt hlt)]
      exact (hf c hcm).1
  done := by
    intro X hP hw hK hc k pins s σ H E I hf st hg
    subst hP hw hK
    obtain ⟨⟨kn, k1, k2, x0, y0, k3⟩, s1, s2⟩ := st
    obtain ⟨g0, us, ws, ⟨g1, g2⟩, g3, g4⟩ := hg
    obtain ⟨its, r1, p1, _⟩ := I.tuple g1
    obtain ⟨its2, r2, p2, _⟩ := I.list g3
    have l1 := r1.length
    have l2 := r2.length
    have D1 : Draws X.prog X.w X.A.in1 i [i, a] its.toArray.size _ _ := Draws.tuple (show X.A.in1.handled = none from I.ok.hd hc) i a D.l1i1 its.toArray
    have D2 : Draws X.prog X.w X.A.in1 j [j, b] its2.toArray.size _ _ := Draws.list (show X.A.in1.handled = none from I.ok.hd hc) j b D.l2i2 its2.toArray
    refine wpAny_pyNext_zipD2_end (i := k) (sepM D) D1 D2 k1 k2 k3 ⟨s1, p1⟩ ⟨s2, p2.isList⟩ (by rw [List.size_toArray]; omega) (by rw [List.size_toArray]; omega) (.inl (by rw [List.size_toArray]; omega)) fun h' tk hk => ?_
    exact ⟨rfl, I.turnedL (t' := tk) (ch := [z, t, o, i, j]) (fun c u hb q => hk c u (fun e => hb (by simp [e])) (fun e => hb (by simp [e])) (fun e => hb (by simp [e])) (fun e => hb (by simp [e])) q) hf⟩
  self := fun A k s Q E st h => wpAny_pyIter_zip st.1.2.1 h
def iZipM (K : Fr) (ta : TA) : TI := fun σ H R => ta σ H fun vs H1 => ∃ a b us ws, vs = [.ref a, .ref b] ∧ SqT K H1 a us ∧ SqL K H1 b ws ∧ us.length = ws.length ∧ R (ItzM K a b us.length) H1
theorem pi_zipM {X : Cx} {e e2 : Expr} {ta : TA} {p pos tp : Pos} {es : List Expr} {m : Nat} (K : Fr) (hK : X.K = K) (hg : Gl X "zip") (hm : X.mg "zip" = none) (ha : PA X [e, e2] ta)
    (hs : starEach [e, e2] X.env = (false, eval e X.env) :: starEach [e2] X.env := by rfl) (hpl : (backTo pos (starEach [e2] X.env)).any (·.1) = false := by rfl) :
    PI X (.Tuple es m tp) (.Call (.Name "zip" p) [e, e2] [] pos) (iZipM K ta) := by
  subst hK
  refine ⟨fun pins s σ H R I h => ?_⟩
  refine Call_ (ld_blt I hg hm PyProof.Rows.boot_zip (PyProof.Rows.callWith_type1 (thn (ha.run pos pins s σ H _ I h) fun vv s1 ⟨vs, H1, I1, r1, q1⟩ => ?_) hs hpl))
  obtain ⟨a, b, us, ws, ex, g1, g2, _, q⟩ := q1
  subst ex
  cases r1 with
  | cons r rr =>
  cases rr with
  | cons r' rr =>
  cases rr
  cases r
  cases r'
  have fr : ∀ c, c ∈ [s1.heap.objs.size + 4, s1.heap.objs.size + 2, s1.heap.objs.size + 3, s1.heap.objs.size, s1.heap.objs.size + 1] → FpOk X pins H1 c := fun c hcm => by
    have le : s1.heap.objs.size ≤ c := by rcases five hcm with e | e | e | e | e <;> rw [e] <;> omega
    exact I1.fpOk le (I1.hok.fresh le)
  obtain ⟨its, r1, p1, _⟩ := I1.tuple g1
  obtain ⟨its2, r2, p2, _⟩ := I1.list g2
  obtain ⟨o1, ho1, _⟩ := id p1
  refine zip_begins2 (begins_tuple a its.toArray) (begins_list b its2.toArray) p1 p2.isList fun h' hz ht ho hi hj hsz hk => wpAny_pyIter_zip hz ?_
  have I2 : Inv X pins σ H1 { s1 with heap := h' } := I1.kept (t' := s1.toks) hk
  exact ⟨s1.heap.objs.size + 4, [s1.heap.objs.size + 4, s1.heap.objs.size + 2, s1.heap.objs.size + 3, s1.heap.objs.size, s1.heap.objs.size + 1], _, _, H1, rfl, I2, turn_zipM us.length (PySem.W.ktu_apart s1.heap.objs.size a b (Heap.lt_size ho1) p2.lt), ⟨⟨Nat.zero_le _, hz, ht, _, _, ho⟩, ⟨_, hi, rfl, rfl⟩, ⟨_, hj, rfl, rfl⟩⟩, fr, q⟩
variable [Tbs]
theorem ws_forZipM {B : Bs} {K : Fr} {ρ : En} {ta tb : TE} {Z : Zs} {α β : Type} {g : TG} {tS : TS} (f : α → PyData) (f2 : β → PyData)
    (h : WD B K ta ρ fun x ρ1 => ∃ as : List α, x = .tuple (as.map f) ∧ WD B K tb ρ1 fun y ρ2 => ∃ bs : List β, y = .list (bs.map f2) ∧ as.length = bs.length ∧ Loop B K g tS (zpD f f2) (as.zip bs) ρ2 Z) :
    WS B K (tFor (iZipM K (tCons ta (tCons tb tNil))) g tS) ρ Z := fun F H σ E D ok =>
  h F H σ E _ fun v x F1 H1 ρ1 E1 e1 rv ⟨as, hx, q⟩ => q F1 H1 σ E1 _ fun u y F3 H3 ρ3 E3 e3 ru ⟨bs, hy, hab, I, i0, is, id⟩ => by
    subst hx hy
    have rv' := Rp.mono e3 rv
    cases rv' with
    | @tup a vs xs ha ra =>
    cases ru with
    | @lst b us ys hb rb =>
    have hl : vs.length = as.length := by rw [ra.length, List.length_map]
    have hl2 : us.length = bs.length := by rw [rb.length, List.length_map]
    have sq : ∀ {F2 H2 : Hp}, Ex F3 F2 → Ex F2 H2 → SqT K H2 a vs := fun e fh => fh.stt (e.stt ha)
    have sq2 : ∀ {F2 H2 : Hp}, Ex F3 F2 → Ex F2 H2 → SqL K H2 b us := fun e fh => .inl (.inl (fh _ _ (e _ _ hb)))
    refine ⟨a, b, vs, us, rfl, E3.fh.stt ha, .inl (.inl (E3.fh _ _ hb)), by omega, loop_gen (f := zpD f f2) (as := as.zip bs) (fun _ => True) E3 (e1.trans e3) ok (fun i p F2 H2 σ2 ρ2 ea E2 e2 _ => ?_) (fun i F2 H2 σ2 ρ2 hi E2 e2 _ => ?_) (fun i p F2 H2 σ2 ρ2 y H' ea E2 e2 _ hy => ?_) I (fun _ _ _ => trivial) i0 is id⟩
    · rw [List.getElem?_zip_eq_some] at ea
      obtain ⟨w1, hw1, _⟩ := at_map' ra ea.1
      obtain ⟨w2, hw2, _⟩ := at_map' rb ea.2
      exact ⟨by have := (List.getElem?_eq_some_iff.mp ea.1).1; omega, vs, us, w1, w2, ⟨sq e2 E2.fh, hw1⟩, sq2 e2 E2.fh, hw2⟩
    · rw [List.length_zip] at hi
      exact ⟨by omega, vs, us, ⟨sq e2 E2.fh, rfl⟩, sq2 e2 E2.fh, by omega⟩
    · rw [List.getElem?_zip_eq_some] at ea
      obtain ⟨T, w1, w2, ⟨rfl, hT, rfl⟩, h1, h2⟩ := hy
      exact pair_new E2 hT (Rp.mono e2 (at_map ra ea.1 (h1 vs (sq e2 E2.fh)))) (Rp.mono e2 (at_map rb ea.2 (h2 us (sq2 e2 E2.fh))))
end SV

set_option maxHeartbeats 1000000
/-! for x in l: l a list or a tuple -/
namespace SV
open PySem PySem.Spec L2 PyProof.Rows
open Evl (Ex)
variable [Tbs]
def iEith (K : Fr) (tl : TE) : TI := fun σ H R => iList K tl σ H R ∨ iTup K tl σ H R
theorem k_piE {X : Cx} (K : Fr) (h : X.K = K) {tg l : Expr} {tl : TE} (hl : PE X l tl) : PI X tg l (iEith K tl) :=
  ⟨fun pins s σ H R I hh => hh.elim (fun q => (k_piL K h hl).run pins s σ H R I q) fun q => (k_piT K h hl).run pins s σ H R I q⟩
theorem k_gLst {X : Cx} (K : Fr) (h : X.K = K) {es : List Expr} {k : Nat} {pos : Pos} {t : TGs} {n : Nat} (hc : X.calm = true) (hg : PGs X es t) (hn : (assignEach es X.env).length = n := by rfl) (hst : (assignEach es X.env).findIdx? (·.1) = none := by rfl) : PG X (.Tuple es k pos) (gLst K n t) := h ▸ pg_lst hc hg hn hst
theorem wg_lst {B : Bs} {K : Fr} {ρ : En} {n : Nat} {gs : TGs} {xs : List PyData} {q : En → Prop} (hn : xs.length = n) (h : WGs B K gs xs ρ q) : WG B K (gLst K n gs) (.list xs) ρ q := fun F H σ v E rv QQ k => by
  cases rv with
  | @lst a vs xs ha ra => exact ⟨a, vs, rfl, .inl (.inl (E.fh _ _ ha)), by rw [ra.length]; exact hn, h F H σ vs E ra QQ k⟩
/-- a list, or a tuple -/
def seqD (b : Bool) (xs : List PyData) : PyData := if b = true then .tuple xs else .list xs
section
variable {B : Bs} {K : Fr} {ρ : En} {te tl : TE} {Z : Zs} {Q : R → En → Prop}
theorem ws_forE {α : Type} {g : TG} {tb : TS} {j : Nat} {b : Bool} {as : List α} (f : α → PyData) (hj : ρ[j]? = some (some (.d (seqD b (as.map f))))) (h : Loop B K g tb f as ρ Z) : WS B K (tFor (iEith K (tVar j)) g tb) ρ Z := by
  cases b
  · exact fun F H σ E D ok => .inl (ws_forL (te := tVar j) f (wd_var hj ⟨as, rfl, h⟩) F H σ E D ok)
  · exact fun F H σ E D ok => .inr (ws_forT (te := tVar j) f (wd_var hj ⟨as, rfl, h⟩) F H σ E D ok)
theorem we_lcE {α : Type} {g : TG} {tt : TT} {vs : List Nat} {j : Nat} {b : Bool} {as : List α} (f : α → PyData) (P : α → Option PyData → Prop) (gv : GV g vs) (hj : ρ[j]? = some (some (.d (seqD b (as.map f)))))
    (h : as.length ≤ lim ∧ Comp K g tt te vs f as ρ P ∧ ∀ ys, Sel P as ys → Q (.new ys) ρ) : WE B K (tLc (iEith K (tVar j)) g tt te vs) ρ Q := by
  cases b
  · exact fun F H σ E QQ k => .inl (we_lcL (tl := tVar j) f P gv (wd_var hj ⟨as, rfl, h⟩) F H σ E QQ k)
  · exact fun F H σ E QQ k => .inr (we_lcT (tl := tVar j) f P gv (wd_var hj ⟨as, rfl, h⟩) F H σ E QQ k)
end
end SV

set_option maxHeartbeats 1000000
/-! xs[::-1] -/
namespace SV
open PySem PySem.Spec L2 PyProof.Rows
open Evl (Ex)
variable [Tbs]
def tBack (K : Fr) (te : TE) (tl th ts : TO) : TE := fun σ H Q => te σ H fun x H1 => tl σ H1 fun l H2 => th σ H2 fun u H3 => ts σ H3 fun st H4 => (l = none ∧ u = none ∧ st = some (-1)) ∧ ∃ a xs, x = .ref a ∧ SqL K H4 a xs ∧ ∀ p, H4 p = none → Q (.ref p) (upd H4 p (.lst xs.reverse))
theorem vals_rev {xs : List V} {us : List Value} (r : Vals xs us) : Vals xs.reverse us.reverse := by
  induction r with
  | nil => exact .nil
  | cons h _ ih =>
    rw [List.reverse_cons, List.reverse_cons]
    exact ih.append (.cons h .nil)
theorem k_back {X : Cx} {e : Expr} {te : TE} {tl th ts : TO} {lo hi : Option Expr} {st : Expr} {p3 pos : Pos} (K : Fr) (hK : X.K = K) (he : PE X e te) (hl : PO X lo tl) (hu : PO X hi th) (hs : PO X (some st) ts) : PE X (.Subscript e (.Slice lo hi (some st) p3) pos) (tBack K te tl th ts) := by
  subst hK
  refine ⟨fun pins s σ H Q I h => ?_⟩
  refine Subscript_ (thn (he.run pins s σ H _ I h) fun v s1 ⟨x, H1, I1, r1, q1⟩ => ?_)
  refine wpAny_Slice (thn (hl.run pins s1 σ H1 _ I1 q1) fun vl s2 ⟨l, H2, I2, pl, q2⟩ => ?_)
  refine thn (hu.run pins s2 σ H2 _ I2 q2) fun vu s3 ⟨u, H3, I3, pu, q3⟩ => ?_
  refine thn (hs.run pins s3 σ H3 _ I3 q3) fun vs s4 ⟨o, H4, I4, ps, ⟨el, eu, eo⟩, a, xs, ex, hx, q⟩ => ?_
  subst ex el eu eo
  cases r1
  have I5 : Inv X pins σ H4 { s4 with heap := s4.heap.push { cls := .type "slice", data := .fields #[vl, vu, vs] } } := I4.kept (t' := s4.toks) fun b ob q => Heap.get?_push_of_some _ q
  obtain ⟨its, r, ht, hz⟩ := I5.list hx
  have hlen := r.length
  show wpAny (model X.prog X.w) X.A (subscriptTail e (.Slice lo hi (some st) p3) (.ref a) (.ref s4.heap.objs.size)) (EP X pins σ Q) X.xe { s4 with heap := s4.heap.push { cls := .type "slice", data := .fields #[vl, vu, vs] } }
  refine tail_any (ops := [.ref a, .ref s4.heap.objs.size]) ht.isList.typeIs (PySem.slot_list_getitem.lookup) ?_ (by with_unfolding_all rfl)
  refine wpAny_getItem_list_slice ht.isList (Heap.IsSliceOf.new _ vl vu vs) pl pu ps (by decide) ?_ (by rw [List.size_toArray]; omega)
  have rp := vals_rev r
  rw [PySem.W.krv_pick]
  refine ⟨.ref _, _, I5.laid (t' := s4.toks) (o := .lst xs.reverse) (fun b ob q => Heap.get?_push_of_some _ q) (Nat.le_refl _) ?_, rfl, q _ (I5.hok.fresh (Nat.le_refl _))⟩
  exact ⟨by rw [List.length_reverse]; exact hz, _, 0, rp, Heap.get?_push_size _ rfl⟩
section
variable {B : Bs} {K : Fr} {ρ : En} {Q : R → En → Prop}
theorem we_backO {j : Nat} {zs : List PyData} {t1 t2 t3 : TO} (hj : ρ[j]? = some (some (.own zs))) (h : WO B K t1 ρ fun lo ρ2 => WO B K t2 ρ2 fun hi ρ3 => WO B K t3 ρ3 fun st ρ4 => (lo = none ∧ hi = none ∧ st = some (-1)) ∧ ∃ xs, ρ4[j]? = some (some (.own xs)) ∧ Q (.new xs.reverse) ρ4) : WE B K (tBack K (tVar j) t1 t2 t3) ρ Q := fun F H σ E QQ k => by
  obtain ⟨a, vs, e, _⟩ := E.own_at hj
  refine ⟨.ref a, e, h F H σ E _ fun lo F2 H2 ρ2 E2 e2 q2 => q2 F2 H2 σ E2 _ fun hi F3 H3 ρ3 E3 e3 q3 => q3 F3 H3 σ E3 _ fun st F4 H4 ρ4 E4 e4 ⟨hh, xs, hx, q4⟩ => ⟨hh, ?_⟩⟩
  obtain ⟨a', ws, e', _, k2, k3⟩ := E4.own_at hx
  rw [e] at e'
  cases e'
  refine ⟨a, ws, rfl, .inl (.inl k2), fun p hp => ?_⟩
  obtain ⟨E5, r5⟩ := new_ok E4 hp k3.reverse
  exact k _ _ F4 _ ρ4 E5 ((e2.trans e3).trans e4) r5 q4
end
end SV

set_option maxHeartbeats 1000000
/-! a def that makes a lambda and may raise -/
namespace SV
open PySem PySem.Spec L2 PyProof.Rows
open Evl (Ex)
variable [Tbs]
theorem okXL {P : Program} {w : World} {K : Fr} {mg : Str → Option Value} {base : Heap} {x qual : Str} {st : Stmt} {f : Addr} {fd : FuncData} {N ps : List Str} {k : Nat} {sp : Sp} (F : Fun K x qual st f fd) (S : FnScope N ps (defScope st)) (len : ∀ vs H Q E, sp vs H Q E → vs.length = ps.length)
    (hb : ∀ (cdv : Value), fd.code = cdv → ∀ (A : Around) (outer : List Env) (s : Shared) (H : Hp) (vs : List V) (Q : VK) (E : XK), Room k (A.deeper (envOfC qual (defScope st) s.heap.objs.size f cdv)) → sp vs H Q E →
      ∃ t, PSs (cxOf (L2.CX P w) P w K mg base N qual (defScope st) f cdv A outer s H E) (defBody st) t ∧ t { nx := fun _ H' => Q .non H', rt := Q } (L2.start N vs) H) : FnOk P w K mg base (L2.CX P w) (k + 1) f fd ps sp := by
  obtain ⟨_, _, _, _, _, _, _, _, _, rfl, lk, hcd⟩ := F.ex
  exact fn_of lk hcd S len fun A outer s H vs Q E hr hsp => hb _ rfl A outer s H vs Q E hr hsp
end SV

set_option maxHeartbeats 1000000
/-! sorted(t): t a tuple of tuples of ints; sorted(xs) of an own list -/
namespace SV
open PySem PySem.Spec L2 PyProof.Rows
open Evl (Ex)
variable [Tbs]
section
variable {prog : Program} {w : World} {A : Around} {E : Value → Shared → Prop} {s : Shared}
theorem collect_tup {t : Addr} {xs : List Value} {Q : List Value → Shared → Prop} (ht : s.heap.IsTuple t xs.toArray) (hz : xs.length ≤ sizeLine)
    (k : Q xs { s with heap := (s.heap.push (seqObj "list" #[] 0)).update s.heap.objs.size (Obj.mapSeq (· ++ xs.toArray)) }) : wpAny (model prog w) A (collect (.ref t)) Q E s := by
  obtain ⟨ob, hob, hcl, m, hda⟩ := ht
  have hob2 : (s.heap.push (seqObj "list" #[] 0)).get? t = some ob := Heap.get?_push_of_some _ hob
  have hnew : (s.heap.push (seqObj "list" #[] 0)).get? s.heap.objs.size = some (seqObj "list" #[] 0) := Heap.get?_push_size _ rfl
  have hcat : ((#[] : Array Value) ++ xs.toArray).toList = xs := by simp
  have hsz : ((#[] : Array Value) ++ xs.toArray).size ≤ sizeLine + 1 := by simp only [Array.size_append, List.size_toArray, List.length_nil]; omega
  unfold collect
  refine wpAny_bind (wpAny_runValue (codeAny_builtin entry_proto_collect' (show wpAny _ _ (do again (.builtin "list.__iadd__" ⟨[← newList [], .ref t], []⟩)) _ _ s from wpAny_bind (wpAny_newList (wpAny_pure ⟨Code.quiet_builtin _ (by decide +kernel), codeAny_builtin entry_list_iadd' ?_⟩)))))
  show wpAny _ _ (Builtin.List.listExtendWith (.ref s.heap.objs.size) (.ref t) (.ref s.heap.objs.size)) _ _ ({ s with heap := s.heap.push (seqObj "list" #[] 0) } : Shared)
  unfold Builtin.List.listExtendWith
  refine wpAny_bind (wpAny_typeOf (T := "tuple") ⟨ob, hob2, hcl⟩ ?_)
  have htt : (Value.type "tuple" == Value.type "tuple") = true := by rfl
  rw [if_pos (by rw [htt, Bool.or_true])]
  refine wpAny_bind (listItems_at hob2 hda (wpAny_bind (listItems_at (xs := #[]) (n := 0) hnew rfl ?_)))
  rw [if_neg (by simp)]
  refine wpAny_bind (listUpdate_at (xs := #[]) (n := 0) hnew rfl (wpAny_pure ?_) (Nat.zero_le _) hsz)
  show wpAny (model prog w) A (do let o ← load s.heap.objs.size; match o.data with | .seq ys _ => pure ys.toList | _ => unsupported "internal:collect") Q E _
  refine wpAny_bind (wpAny_load (get?_update_seq hnew _) ?_)
  show wpAny _ _ (pure ((#[] : Array Value) ++ xs.toArray).toList) Q E _
  rw [hcat]
  exact wpAny_pure k
theorem sorted_ordT {t : Addr} {xs : List Value} {lt : Value → Value → Bool} {Q : Value → Shared → Prop} (O : SrtO.Swo lt) (ht : s.heap.IsTuple t xs.toArray) (hz : xs.length ≤ sizeLine)
    (hS : 2 ≤ xs.length → ∀ (h₁ : Heap) (a : Addr), h₁.get? a = some (seqObj "list" xs.toArray 0) → (∀ b o, s.heap.get? b = some o → b ≠ a ∧ h₁.get? b = some o) → SrtO.SortableO prog w A.in1.in1 { s with heap := h₁ } a xs lt)
    (k : ∀ out : List Value, SrtO.Srtd lt out → SrtO.Stb lt out xs → Q (.ref (s.heap.objs.size + 1)) { s with heap := sortedAll s.heap xs out.toArray }) : wpAny (model prog w) A (call (.builtin "sorted") [.ref t]) Q E s := by
  refine Calls.call_function_entry kind_sorted plain_sorted entry_sorted (args_sorted1 _) (show _ from ?_)
  unfold Builtin.«sorted»
  refine wpAny_bind (m := checkCount "sorted" 1 1 _) (wpAny_pure (wpAny_bind (collect_tup ht hz (wpAny_bind (wpAny_newList ?_ hz)))))
  have e1 : ((s.heap.push (seqObj "list" #[] 0)).update s.heap.objs.size (Obj.mapSeq (· ++ xs.toArray))).objs.size = s.heap.objs.size + 1 := by rw [Heap.size_update, size_push']
  have e2 : (((s.heap.push (seqObj "list" #[] 0)).update s.heap.objs.size (Obj.mapSeq (· ++ xs.toArray))).push (seqObj "list" xs.toArray 0)).get? (s.heap.objs.size + 1) = some (seqObj "list" xs.toArray 0) := by rw [← e1]; exact Heap.get?_push_size _ rfl
  have e3 : ∀ b o, s.heap.get? b = some o → b ≠ s.heap.objs.size + 1 ∧ (((s.heap.push (seqObj "list" #[] 0)).update s.heap.objs.size (Obj.mapSeq (· ++ xs.toArray))).push (seqObj "list" xs.toArray 0)).get? b = some o := fun b o q => by
    have l := Heap.lt_size q
    exact ⟨Nat.ne_of_lt (Nat.lt_succ_of_lt l), Heap.get?_push_of_some _ (by rw [Heap.get?_update_ne _ _ _ _ (Nat.ne_of_lt l)]; exact Heap.get?_push_of_some _ q)⟩
  show wpAny _ _ _ _ _ ({ s with heap := ((s.heap.push (seqObj "list" #[] 0)).update s.heap.objs.size (Obj.mapSeq (· ++ xs.toArray))).push (seqObj "list" xs.toArray 0) } : Shared)
  rw [e1]
  exact wpAny_bind (wpAny_holding (wpAny_call_entry slot_list_sort ⟨_, e2, rfl⟩ entry_list_sort (SrtO.list_sort_ord O e2 hz (fun h2 => hS h2 _ _ e2 e3) fun out hs hb => ⟨_, rfl, wpAny_pure ⟨_, rfl, k out hs hb⟩⟩) (args_list_sort _)))
theorem sorted_tiT {l : Addr} {vs : List Value} {k : Value → List Int} {Q : Value → Shared → Prop} (hl : s.heap.IsTuple l vs.toArray) (hz : vs.length ≤ sizeLine) (hp : ∀ v ∈ vs, IsTI s.heap v (k v)) (hk : ∀ v ∈ vs, k v ≠ [])
    (h : ∀ (h' : Heap) (d : Addr) (out : List Value), SrtO.Srtd (fun v u => lexI (k v) (k u)) out → out.Perm vs → (∀ b o, s.heap.get? b = some o → h'.get? b = some o) → s.heap.objs.size ≤ d → (∃ n, h'.get? d = some (seqObj "list" out.toArray n)) → Q (.ref d) { s with heap := h' }) :
    wpAny (model prog w) A (call (.builtin "sorted") [.ref l]) Q E s := by
  refine sorted_ordT (lexI_swo k) hl hz (fun h2 h₁ a ha kk => ?_) fun out hs hb => ?_
  · refine ti_sortable (s := { s with heap := h₁ }) (by omega) (fun v hm => (hp v hm).keeps fun b o e _ => (kk b o e).2) hk fun o e => ?_
    have e' : some o = some (seqObj "list" vs.toArray 0) := e.symm.trans ha
    cases e'
    intro c
    exact absurd (Value.type.inj c) (by decide)
  · exact h _ _ out hs hb.perm (fun b o e => sortedAll_old e) (Nat.le_succ _) (sortedAll_at s.heap vs out.toArray)
end
/-- sorted(t): t a tuple of tuples of ints -/
def rSortTT (K : Fr) : List V → Hp → VK → Prop := fun vs H Q => ∃ (a : Addr) (ps : List (V × List Int)), vs = [V.ref a] ∧ SqT K H a (ps.map (·.1)) ∧ (∀ p ∈ ps, p.2 ≠ [] ∧ ∃ t, p.1 = V.ref t ∧ SqT K H t (p.2.map V.int)) ∧
  ∀ (qs : List (V × List Int)) p, qs.Perm ps → qs.Pairwise (fun x y => lexI y.2 x.2 = false) → H p = none → Q (.ref p) (upd H p (.lst (qs.map (·.1))))
theorem cr_sortTT {X : Cx} : CallR X (.builtin "sorted") (rSortTT X.K) := by
  intro pins s σ H vs us Q I r h
  obtain ⟨a, ps, rfl, hs, hx, q⟩ := h
  obtain ⟨its, rv, hl, hz⟩ := I.tuple hs
  obtain ⟨u, rfl, ru⟩ := vals1 r
  obtain rfl : u = Value.ref a := ru
  obtain ⟨e1, e2⟩ := refs_back rv fun x m => by
    obtain ⟨p, hp, rfl⟩ := List.mem_map.mp m
    obtain ⟨_, t, e, _⟩ := hx p hp
    exact ⟨t, e⟩
  have kk : ∀ p, p ∈ ps → keyOf ps p.1 = p.2 := fun p hp => by
    obtain ⟨_, t, e, ht⟩ := hx p hp
    obtain ⟨_, t', e', ht'⟩ := hx _ (keyOf_in hp)
    rw [show (p.1, keyOf ps p.1).1 = p.1 from rfl, e] at e'
    cases e'
    exact map_int_inj (I.tuple_inj ht' ht)
  let k : Value → List Int := fun u => keyOf ps (backV u)
  have back : ∀ v, v ∈ its → ∃ t, v = Value.ref t ∧ (V.ref t, k v) ∈ ps ∧ k v ≠ [] ∧ SqT X.K H t ((k v).map V.int) := fun v hv => by
    obtain ⟨t, rfl⟩ := e2 v hv
    have hm : V.ref t ∈ ps.map (·.1) := by rw [e1]; exact List.mem_map.mpr ⟨_, hv, rfl⟩
    obtain ⟨p, hp, ep⟩ := List.mem_map.mp hm
    obtain ⟨hk, t', e, ht⟩ := hx p hp
    have e3 := kk p hp
    rw [ep] at e e3
    cases e
    have e4 : k (.ref t) = p.2 := e3
    rw [e4]
    exact ⟨t, rfl, by rw [← ep]; exact hp, hk, ht⟩
  refine sorted_tiT (k := k) (show s.heap.IsTuple a its.toArray from hl) (by rw [← rv.length]; exact hz) (fun v hv => ?_) (fun v hv => ?_) fun h' d out h1 h2 kp hd hn => ?_
  · obtain ⟨t, e, hm, hk, ht⟩ := back v hv
    obtain ⟨its2, r2, ⟨o, ho, hc, n, hdt⟩, _⟩ := I.tuple ht
    exact ⟨t, o, its2.toArray, n, e, ho, hc, hdt, by simpa using r2.ints⟩
  · obtain ⟨t, e, hm, hk, ht⟩ := back v hv
    exact hk
  · have h3 : ∀ u ∈ out, ∃ a, u = Value.ref a := fun u hu => e2 u (h2.mem_iff.mp hu)
    obtain ⟨n, hn⟩ := hn
    have e5 : its.map (fun u => (backV u, k u)) = ps := by
      have e6 : its.map (fun u => (backV u, k u)) = (its.map backV).map fun x => (x, keyOf ps x) := by rw [List.map_map]; rfl
      rw [e6, ← e1, List.map_map]
      have e7 : ps.map ((fun x => (x, keyOf ps x)) ∘ fun p => p.1) = ps.map id := List.map_congr_left fun p hp => by
        show (p.1, keyOf ps p.1) = p
        rw [kk p hp]
      rw [e7, List.map_id]
    have hb : (out.map fun u => (backV u, k u)).Perm ps := by
      rw [← e5]
      exact h2.map _
    have e8 : (out.map fun u => (backV u, k u)).map (·.1) = out.map backV := by rw [List.map_map]; rfl
    have hq := q (out.map fun u => (backV u, k u)) d hb (by
      rw [List.pairwise_map]
      exact h1) (I.hok.fresh hd)
    rw [e8] at hq
    refine ⟨.ref d, upd H d (.lst (out.map backV)), I.laid (t' := s.toks) kp hd ⟨?_, out, n, vals_back h3, hn⟩, rfl, hq⟩
    have e9 := hb.length_eq
    rw [List.length_map] at e9 hz ⊢
    rw [e9]
    exact hz
theorem k_sortTT {X : Cx} (K : Fr) (h : X.K = K := by rfl) : CallR X (.builtin "sorted") (rSortTT K) := h ▸ cr_sortTT
section
variable {B : Bs} {K : Fr} {ρ : En} {te : TE} {Q : R → En → Prop}
theorem we_sortTT (h : WD B K te ρ fun x ρ1 => ∃ ts : List (List Int), x = .tuple (ts.map tiD) ∧ (∀ t, t ∈ ts → t ≠ []) ∧ ∀ ts' : List (List Int), ts'.Perm ts → ts'.Pairwise leI → Q (.new (ts'.map tiD)) ρ1) : WE B K (tCB (rSortTT K) (tCons te tNil)) ρ Q := fun F H σ E QQ k =>
  h F H σ E _ fun v x F1 H1 ρ1 E1 e1 rv ⟨ts, hx, hne, q⟩ => by
    subst hx
    cases rv with
    | @tup a vs xs ha ra =>
    obtain ⟨ps, h1, h2, h3⟩ := ra.split_ti
    refine ⟨a, ps, rfl, by rw [h1]; exact E1.fh.stt ha, fun p hp => ⟨hne _ (by rw [← h2]; exact List.mem_map.mpr ⟨p, hp, rfl⟩), ?_⟩, fun qs p pm pw hp => ?_⟩
    · have r := h3 p hp
      generalize p.1 = v at r ⊢
      cases r with
      | @tup t us ys ht rt =>
        have e := rt.ints
        subst e
        exact ⟨t, rfl, E1.fh.stt ht⟩
    · have h4 : ∀ p, p ∈ qs → Rp K F1 p.1 (tiD p.2) := fun p hp => h3 p (pm.mem_iff.mp hp)
      obtain ⟨E2, r2⟩ := new_ok E1 hp (RpA.of_ps h4)
      exact k _ _ F1 _ ρ1 E2 e1 r2 (q (qs.map (·.2)) (by rw [← h2]; exact pm.map _) (by rw [List.pairwise_map]; exact pw))
theorem we_sortTIO {j : Nat} {ts : List (List Int)} (hj : ρ[j]? = some (some (.own (ts.map tiD)))) (hne : ∀ t, t ∈ ts → t ≠ []) (q : ∀ ts' : List (List Int), ts'.Perm ts → ts'.Pairwise leI → Q (.new (ts'.map tiD)) ρ) : WE B K (tCB (rSortTI K) (tCons (tVar j) tNil)) ρ Q := fun F H σ E QQ k => by
  obtain ⟨a, vs, e, _, ha, ra⟩ := E.own_at hj
  obtain ⟨ps, h1, h2, h3⟩ := ra.split_ti
  refine ⟨.ref a, e, a, ps, rfl, .inl (.inl (by rw [h1]; exact ha)), fun p hp => ⟨hne _ (by rw [← h2]; exact List.mem_map.mpr ⟨p, hp, rfl⟩), ?_⟩, fun qs p pm pw hp => ?_⟩
  · have r := h3 p hp
    generalize p.1 = v at r ⊢
    cases r with
    | @tup t us ys ht rt =>
      have e := rt.ints
      subst e
      exact ⟨t, rfl, E.fh.stt ht⟩
  · have h4 : ∀ p, p ∈ qs → Rp K F p.1 (tiD p.2) := fun p hp => h3 p (pm.mem_iff.mp hp)
    obtain ⟨E2, r2⟩ := new_ok E hp (RpA.of_ps h4)
    exact k _ _ F _ ρ E2 (Ex.refl F) r2 (q (qs.map (·.2)) (by rw [← h2]; exact pm.map _) (by rw [List.pairwise_map]; exact pw))
end
end SV

set_option maxHeartbeats 1000000
/-! xs.index(x) over data -/
namespace SV
open PySem PySem.Spec L2 PyProof.Rows
open Evl (Ex)
variable [Tbs]
section
variable {B : Bs} {K : Fr} {ρ : En} {to te : TE} {QD : PyData → En → Prop}
theorem wd_indexD (h : WD B K to ρ fun y ρ1 => ∃ ds, y = .list ds ∧ WD B K te ρ1 fun x ρ2 => ∃ (j : Nat) (z : PyData), (noD x = true ∧ noDs ds = true ∧ SeqAt.shaped x = true ∧ SeqAt.shaped (.list ds) = true) ∧ ds[j]? = some z ∧ PyData.eqv z x = true ∧
    (∀ (m : Nat) (z' : PyData), m < j → ds[m]? = some z' → PyData.eqv z' x = false) ∧ QD (.int (j : Nat)) ρ2) : WD B K (tBM K "list" (rIndexD K) to (tCons te tNil)) ρ QD := fun F H σ E QQ k =>
  h F H σ E _ fun u y F1 H1 ρ1 E1 e1 ru ⟨ds, hy, q⟩ => by
    subst hy
    cases ru with
    | @lst a vs xs ha ra =>
    refine ⟨.inl ⟨rfl, vs, .inl (.inl (E1.fh _ _ ha))⟩, q F1 H1 σ E1 _ fun v x F2 H2 ρ2 E2 e2 rv ⟨j, z, ⟨n1, n2, s1, s2⟩, z1, z2, z3, q2⟩ => ?_⟩
    have ru2 : Rp K F2 (.ref a) (.list ds) := Rp.mono e2 (.lst ha ra)
    exact ⟨a, v, x, ds, j, z, rfl, rfl, Rp.dp E2.fh ru2 (by unfold noD; exact n2), Rp.dp E2.fh rv n1, s2, s1, z1, z2, z3, k _ _ F2 H2 ρ2 E2 (e1.trans e2) (.int _) q2⟩
end
end SV

set_option maxHeartbeats 1000000
/-! all(bs), a list of truths -/
namespace SV
open PySem PySem.Spec L2 PyProof.Rows
open Evl (Ex)
variable [Tbs]
section
variable {B : Bs} {K : Fr} {ρ : En} {te : TE} {QD : PyData → En → Prop}
theorem wd_all (h : WD B K te ρ fun x ρ1 => ∃ bs : List Bool, x = .list (bs.map .bool) ∧ QD (.bool (bs.all id)) ρ1) : WD B K (tCB (rAll K) (tCons te tNil)) ρ QD := fun F H σ E QQ k =>
  h F H σ E _ fun v x F1 H1 ρ1 E1 e1 rv ⟨ns, hx, q⟩ => by
    subst hx
    cases rv with
    | @lst a vs xs ha ra =>
    have e := ra.bls
    subst e
    exact ⟨a, ns, rfl, .inl (.inl (E1.fh _ _ ha)), k _ _ F1 H1 ρ1 E1 e1 (.bl _) q⟩
theorem wd_all1 {α : Type} {f : α → Bool} {as : List α} (h : WD B K te ρ fun x ρ1 => x = .list (as.map fun a => .bool (f a)) ∧ (∀ a, a ∈ as → f a = true) ∧ QD (.bool true) ρ1) : WD B K (tCB (rAll K) (tCons te tNil)) ρ QD :=
  wd_all fun F H σ E QQ k => h F H σ E QQ fun v x F1 H1 ρ1 E1 e1 rv ⟨hx, hall, q⟩ => k v x F1 H1 ρ1 E1 e1 rv ⟨as.map f, by rw [hx, List.map_map]; rfl, by
    have e : (as.map f).all id = true := List.all_eq_true.mpr fun b hb => by
      obtain ⟨a, ha, rfl⟩ := List.mem_map.mp hb
      exact hall a ha
    rw [e]
    exact q⟩
end
end SV

set_option maxHeartbeats 1000000
/-! an own dict of own lists: k not in d, d[k] = [], d[k] as a place -/
namespace SV
open PySem PySem.Spec L2 PyProof.Rows
open Evl (Ex)
variable [Tbs]
section
variable {B : Bs} {K : Fr} {ρ : En} {Q : R → En → Prop} {QD : PyData → En → Prop} {Z : Zs}
theorem wd_dnotinP {j m : Nat} {a : Addr} {ks : List Key} {ts : List OT} {k : Key} (hj : ρ[j]? = some (some (.deep (.dct a ks ts)))) (hm : ρ[m]? = some (some (.d (keyD k)))) (q : QD (.bool (!decide (k ∈ ks))) ρ) : WD B K (tDNotIn (tVar m) (tVar j)) ρ QD := fun F H σ E QQ kk => by
  obtain ⟨v0, e0, s0, nd0⟩ := E.sl j _ hj
  obtain ⟨vm, em, sm⟩ := E.sl m _ hm
  cases s0 with
  | @dct _ _ vs _ f1 f2 hl os =>
  have ek : vm = kV k := rp_key sm
  refine ⟨vm, em, .ref a, e0, a, valV (ks.zip vs) k, rfl, by rw [ek]; exact DGet.k f2, ?_⟩
  rw [← valV_any, any_mem (by rw [os.length]; exact hl)]
  exact kk _ _ F H ρ E (Ex.refl F) (.bl _) q
theorem we_dgetP {j m : Nat} {a : Addr} {ks : List Key} {ts : List OT} {k : Key} {b : Addr} {us : List OT} (hj : ρ[j]? = some (some (.deep (.dct a ks ts)))) (hm : ρ[m]? = some (some (.d (keyD k)))) (hg : SV.getK ks ts k = some (.lst b us)) (q : Q (.raw (.ref b)) ρ) :
    WE B K (tDGet (tVar j) (tVar m)) ρ Q := fun F H σ E QQ kk => by
  obtain ⟨v0, e0, s0, nd0⟩ := E.sl j _ hj
  obtain ⟨vm, em, sm⟩ := E.sl m _ hm
  cases s0 with
  | @dct _ _ vs _ f1 f2 hl os =>
  have ek : vm = kV k := rp_key sm
  obtain ⟨w, hw, ow⟩ := (os.getK (ks := ks) (k := k)).1 _ hg
  cases ow with
  | lst _ _ _ =>
  refine ⟨.ref a, e0, vm, em, a, .ref b, rfl, ?_, kk _ (.raw (.ref b)) F H ρ E (Ex.refl F) rfl q⟩
  rw [ek, ← hw, ← valV_get]
  exact DGet.k f2
theorem ws_dputP {j m : Nat} {a : Addr} {ks : List Key} {ts : List OT} {k : Key} (hj : ρ[j]? = some (some (.deep (.dct a ks ts)))) (hm : ρ[m]? = some (some (.d (keyD k)))) (np : NP B j) (hz : ks.length < lim) (hk : k ∉ ks) (q : ∀ b, Z.nx (ρ.set j (some (.deep (.dct a (ks ++ [k]) (ts ++ [.lst b []])))))) :
    WS B K (sDPut (tVar j) (tVar m) (tLst tNil)) ρ Z := fun F H σ E D ok => ⟨Nat.zero_le _, fun p hp => by
  obtain ⟨v0, e0, s0, nd0⟩ := E.sl j _ hj
  obtain ⟨vm, em, sm⟩ := E.sl m _ hm
  cases s0 with
  | @dct _ _ vs _ f1 f2 hl os =>
  have ek : vm = kV k := rp_key sm
  have hap : a ≠ p := fun z => by rw [z, hp] at f2; cases f2
  have hlv : ks.length = vs.length := by rw [os.length]; exact hl
  have E2 : EnvOk B K F (upd H p (.lst [])) σ ρ := E.allocO hp
  refine ⟨.ref a, e0, vm, em, a, _, rfl, by rw [ek]; exact DPut.k (kvs := ks.zip vs) ((upd_ne hap).trans f2) (by rw [List.length_zip, ← hlv, Nat.min_self]; exact lim_lt hz), ?_⟩
  rw [putK_zip hlv, (put_new (x := V.ref p) (xs := vs) hk).1, (put_new (x := V.ref p) (xs := vs) hk).2]
  have fa : SFp σ ρ j a := ⟨_, _, hj, e0, List.mem_cons_self⟩
  have hpf : p ∉ fps ts := fun z => by
    obtain ⟨_, o', e⟩ := os.live z
    rw [hp] at e; cases e
  have ef : (OT.dct a (ks ++ [k]) (ts ++ [.lst p []])).fp = a :: (fps ts ++ [p]) := by
    show a :: fps (ts ++ [.lst p []]) = _
    rw [fps_app]
    rfl
  have ha : a ∉ fps ts := (List.nodup_cons.mp (show (a :: fps ts).Nodup from nd0)).1
  refine ok.nx F _ σ _ (E2.put (l' := .deep (.dct a (ks ++ [k]) (ts ++ [.lst p []]))) hj e0 (E2.st_write fa) ⟨.dct f1 upd_same ?_ ?_, ?_⟩ (fun i b n hb => upd_ne fun z => n (E2.sep i j b hb (by subst z; exact fa))) (fun b hb => ?_) (.inr (.inr np))) (Ex.refl F) (q p)
  · rw [List.length_append, List.length_append, hl]; rfl
  · refine (os.mono (Ex.refl F) fun b hb => ⟨(os.live hb).1, ?_⟩).append (.cons (.lst (E.fh.free hp) ?_ .nil) .nil)
    · rw [upd_ne (fun z => ha (by rw [← z]; exact hb)), upd_ne (fun z => hpf (by rw [← z]; exact hb))]
    · rw [upd_ne (Ne.symm hap)]; exact upd_same
  · rw [ef]
    refine List.nodup_cons.mpr ⟨fun z => ?_, List.nodup_append.mpr ⟨(List.nodup_cons.mp (show (a :: fps ts).Nodup from nd0)).2, by simp, fun b hb c hc z => ?_⟩⟩
    · rcases List.mem_append.mp z with z | z
      · exact ha z
      · exact hap (List.mem_singleton.mp z)
    · rw [List.mem_singleton.mp hc] at z
      exact hpf (by rw [← z]; exact hb)
  · have hb' : b ∈ (OT.dct a (ks ++ [k]) (ts ++ [.lst p []])).fp := hb
    rw [ef] at hb'
    rcases List.mem_cons.mp hb' with z | z
    · exact .inl (by subst z; exact List.mem_cons_self)
    · rcases List.mem_append.mp z with z | z
      · exact .inl (List.mem_cons_of_mem _ z)
      · rw [List.mem_singleton.mp z]
        exact .inr ⟨E.h0p hp, fun i => E.fr hp i⟩⟩
/-- xs[::-1] of data -/
theorem we_back {te : TE} {t1 t2 t3 : TO} (h : WD B K te ρ fun x ρ1 => WO B K t1 ρ1 fun lo ρ2 => WO B K t2 ρ2 fun hi ρ3 => WO B K t3 ρ3 fun st ρ4 => (lo = none ∧ hi = none ∧ st = some (-1)) ∧ ∃ xs, x = .list xs ∧ Q (.new xs.reverse) ρ4) : WE B K (tBack K te t1 t2 t3) ρ Q := fun F H σ E QQ k =>
  h F H σ E _ fun v x F1 H1 ρ1 E1 e1 rv q1 => q1 F1 H1 σ E1 _ fun lo F2 H2 ρ2 E2 e2 q2 => q2 F2 H2 σ E2 _ fun hi F3 H3 ρ3 E3 e3 q3 => q3 F3 H3 σ E3 _ fun st F4 H4 ρ4 E4 e4 ⟨hh, xs, hx, q4⟩ => ⟨hh, by
    subst hx
    have e := (e2.trans e3).trans e4
    cases rv with
    | @lst a vs xs ha ra =>
    refine ⟨a, vs, rfl, .inl (.inl (E4.fh _ _ (e _ _ ha))), fun p hp => ?_⟩
    obtain ⟨E5, r5⟩ := new_ok E4 hp (ra.mono e).reverse
    exact k _ _ F4 _ ρ4 E5 (e1.trans e) r5 q4⟩
/-- an own list, frozen -/
theorem ws_frz {t : TS} {j : Nat} {xs : List PyData} (hj : ρ[j]? = some (some (.own xs))) (np : NP B j) (h : WS B K t (ρ.set j (some (.d (.list xs)))) Z) : WS B K t ρ Z := fun F H σ E D ok => by
  obtain ⟨v, e, E', rv⟩ := E.give hj np
  obtain ⟨F2, E2, ef, r⟩ := E'.asD (r := .new xs) (x := .list xs) rv rfl
  have E3 := E2.setD (i := j) (l := .d (.list xs)) (v := v) r rfl np
  have hl : j < σ.length := (List.getElem?_eq_some_iff.mp e).1
  have e3 : σ.set j (some v) = σ := by
    refine List.ext_getElem? fun i => ?_
    by_cases c : i = j
    · subst c; rw [List.getElem?_set_self hl, e]
    · rw [List.getElem?_set_ne (Ne.symm c)]
  rw [e3, List.set_set] at E3
  exact h _ H σ E3 D (ok.up ef)
end
end SV

set_option maxHeartbeats 1000000
/-! enumerate(z), z a text -/
namespace L2
open PySem PySem.Spec PyProof.Rows
theorem strIter_at {h h' : Heap} {it : Addr} {ty : String} {x : Str} {t : Tok} {i : Nat} (st : h.IsStrIter it ty x t i) (k : ∀ o, h.get? it = some o → h'.get? it = some o) : h'.IsStrIter it ty x t i :=
  let ⟨o, ho, r⟩ := st; ⟨o, k o ho, r⟩
/-- the text x, each sign in a new pair with its number -/
def ItenS (x : Str) : It :=
  ⟨fun i _ => i < x.cps.size, fun i H v H' => ∃ T c, v = .ref T ∧ H T = none ∧ H' = upd H T (.tup [.int (i : Nat), .str ⟨#[c]⟩]) ∧ x.cps[i]? = some c, fun i _ => x.cps.size ≤ i⟩
theorem turn_enumS {P : Program} {w : World} {K : PySem.W.Frag} {elts : List Expr} {kk : Nat} {tpos : Pos} (e it : Addr) (x : Str) (t : Tok) :
    Turn P w K (.Tuple elts kk tpos) (ItenS x) [e, it] e (fun i h => (∃ old, IsEnum h e it ((i : Nat) : Int) old) ∧ h.IsStrIter it (strIterType x) x t i ∧ e ≠ it ∧ i ≤ x.cps.size) where
  mem := List.mem_cons_self
  obj := fun i h st b hb => by
    obtain ⟨⟨old, he⟩, ⟨o, ho, hc, hd⟩, _⟩ := st
    rcases List.mem_cons.mp hb with z | z
    · subst z; exact ⟨_, he, fun v q => nomatch q⟩
    · rw [List.mem_singleton.mp z]; exact ⟨o, ho, fun v q => by rw [hd] at q; cases q⟩
  keep := fun i h h' ⟨⟨old, he⟩, hi, hne⟩ k => ⟨⟨old, k e List.mem_cons_self _ he⟩, strIter_at hi fun o q => k it (by simp) o q, hne⟩
  item := by
    intro X hP hw hK hc i pins s σ H E I hf st hx
    subst hP hw hK
    obtain ⟨⟨old, he⟩, hit, n1, n4⟩ := st
    have le : e < s.heap.objs.size := Heap.lt_size he
    have li : it < s.heap.objs.size := by obtain ⟨_, q, _⟩ := hit; exact Heap.lt_size q
    refine wpAny_pyNext_enum_itemD (Draws.text (A := X.A.in1) (show X.A.in1.handled = none from I.ok.hd hc) it x t) he hit hx n1 (fun z => n1 (List.mem_singleton.mp z)) fun y h' tk hy ho hst hT hsz hk => ?_
    obtain ⟨c, u, hcx, rfl⟩ := hy
    have hit' := hst
    refine ⟨_, rfl, wpAny_letOwnedTupleGo_enum (s := { s with heap := h', toks := tk + 1 }) ho fun h2 he2 sb => ?_⟩
    have hT2 : h2.get? s.heap.objs.size = some { cls := .type "tuple", data := .seq #[.int i tk, .str ⟨#[c]⟩ u] } := (sb.2 _ (Nat.ne_of_gt le)).trans hT
    have nw : ObjOk X.prog X.w (upd H s.heap.objs.size (.tup [.int (i : Nat), .str ⟨#[c]⟩])) h2 s.heap.objs.size (.tup [.int (i : Nat), .str ⟨#[c]⟩]) := ⟨(show 2 ≤ sizeLine by decide), [.int i tk, .str ⟨#[c]⟩ u], .cons ⟨_, rfl⟩ (.cons ⟨_, rfl⟩ .nil), ⟨_, hT2, rfl, _, rfl⟩⟩
    have I1 : Inv X pins σ (upd H s.heap.objs.size (.tup [.int (i : Nat), .str ⟨#[c]⟩])) { s with heap := h2, toks := tk + 1 } := I.turnedNew (ch := [e, it]) (fun b ob hb q => (sb.2 b (fun z => hb (by simp [z]))).trans (hk b ob (fun z => hb (by simp [z])) (fun z => hb (by simp [z])) q)) hf (Nat.le_refl _) nw
    have ei : ((i + 1 : Nat) : Int) = (i : Int) + 1 := by omega
    have hx2 : i < x.cps.size := hx
    refine ⟨.ref s.heap.objs.size, _, I1, rfl, ⟨_, c, rfl, I.hok.fresh (Nat.le_refl _), rfl, hcx⟩, ⟨⟨_, by rw [ei]; exact he2⟩, strIter_at hit' fun o q => (sb.2 it (Ne.symm n1)).trans q, n1, by omega⟩, fun b hb => ?_⟩
    have lb : b < s.heap.objs.size := by
      rcases List.mem_cons.mp hb with z | z
      · rw [z]; exact le
      · rw [List.mem_singleton.mp z]; exact li
    rw [upd_ne (Nat.ne_of_lt lb)]
    exact (hf b hb).1
  done := by
    intro X hP hw hK hc i pins s σ H E I hf st hx
    subst hP hw hK
    obtain ⟨⟨old, he⟩, hit, n1, n4⟩ := st
    obtain ⟨f0, f1, f2, f3, f4, f5⟩ := hf it (by simp)
    have ei : i = x.cps.size := by
      have hx2 : x.cps.size ≤ i := hx
      omega
    subst ei
    exact wpAny_pyNext_enum_endD (Draws.text (A := X.A.in1) (show X.A.in1.handled = none from I.ok.hd hc) it x t) he hit fun h' eb => ⟨rfl, I.turned (t' := s.toks) (fun b o hb q => eb b o hb q) f0 f1 f3 f4 f5⟩
  self := fun A i s Q E ⟨⟨_, he⟩, _⟩ h => wpAny_pyIter_enum he h
def iEnumS (ta : TA) : TI := fun σ H R => ta σ H fun vs H1 => ∃ x, vs = [.str x] ∧ R (ItenS x) H1
theorem pi_enumS {X : Cx} {e : Expr} {ta : TA} {p pos tpos : Pos} {elts : List Expr} {kk : Nat} (hg : Gl X "enumerate") (hm : X.mg "enumerate" = none) (ha : PA X [e] ta) (hs : starEach [e] X.env = [(false, eval e X.env)] := by rfl) :
    PI X (.Tuple elts kk tpos) (.Call (.Name "enumerate" p) [e] [] pos) (iEnumS ta) := by
  refine ⟨fun pins s σ H R I h => Call_ (ld_blt I hg hm boot_enumerate (PyProof.Rows.callWith_type1 (thn (ha.run pos pins s σ H _ I h) fun us s1 ⟨vs, H1, I1, r1, x, ex, q⟩ => ?_) hs rfl))⟩
  subst ex
  cases r1 with
  | cons r rr =>
    cases rr
    obtain ⟨t, rfl⟩ := r
    refine call_enumerate_str fun h' he hit hsz hk => wpAny_pyIter_enum he ?_
    refine ⟨s1.heap.objs.size + 1, [s1.heap.objs.size + 1, s1.heap.objs.size], _, _, H1, rfl, I1.kept (t' := s1.toks) hk, turn_enumS (s1.heap.objs.size + 1) s1.heap.objs.size x t, ⟨⟨.none, he⟩, hit, Nat.succ_ne_self _, Nat.zero_le _⟩, fun b hb => ?_, q⟩
    have hle : s1.heap.objs.size ≤ b := by
      rcases List.mem_cons.mp hb with z | z
      · rw [z]; exact Nat.le_succ _
      · rw [List.mem_singleton.mp z]; exact Nat.le_refl _
    exact I1.fpOk hle (I1.hok.fresh hle)
end L2
namespace SV
open PySem PySem.Spec L2
open Evl (Ex)
section
variable [Tbs]
variable {B : Bs} {K : Fr} {ρ : En} {te : TE} {Z : Zs}
theorem ws_forEnS {g : TG} {tS : TS} (h : WD B K te ρ fun x ρ1 => ∃ z : Str, x = .str z ∧ Loop B K g tS (enD strD) (enL z.cps.toList) ρ1 Z) : WS B K (tFor (iEnumS (tCons te tNil)) g tS) ρ Z := fun F H σ E D ok =>
  h F H σ E _ fun v x F1 H1 ρ1 E1 e1 rv ⟨z, hx, I, i0, is, id⟩ => by
    subst hx
    cases rv
    have hsz : z.cps.toList.length = z.cps.size := Array.length_toList
    refine ⟨z, rfl, loop_gen (f := enD strD) (as := enL z.cps.toList) (fun _ => True) E1 e1 ok (fun i p F2 H2 σ2 ρ2 ea E2 e2 _ => ?_) (fun i F2 H2 σ2 ρ2 hi E2 e2 _ => by rw [enL_len] at hi; show z.cps.size ≤ i; omega) (fun i p F2 H2 σ2 ρ2 y H' ea E2 e2 _ hy => ?_) I (fun _ _ _ => trivial) i0 is id⟩
    · obtain ⟨_, h2⟩ := enL_at ea
      have := (List.getElem?_eq_some_iff.mp h2).1
      show i < z.cps.size
      omega
    · obtain ⟨h1, h2⟩ := enL_at ea
      obtain ⟨T, c, rfl, hT, rfl, hc⟩ := hy
      unfold enD
      rw [h1]
      have e : p.2 = c := by
        rw [Array.getElem?_toList, hc] at h2
        exact (Option.some.inj h2).symm
      rw [e]
      exact pair_new E2 hT (.int _) (.str _)
end
section
variable [Tbs]
variable {B : Bs} {K : Fr} {F H : Hp} {σ : L2.St} {ρ : En} {Z : Zs}
theorem EnvOk.unguard (E : EnvOk B K F H σ ρ) {us : List Addr} (fr : Free B σ ρ us) (lv : ∀ a, a ∈ us → F a = none ∧ ∃ o, H a = some o ∧ ∀ ps, o ≠ .tbl ps) :
    ∀ F2 H2 σ2 ρ2, EnvOk ⟨F, gdH B H us, B.pin⟩ K F2 H2 σ2 ρ2 → EnvOk B K F2 H2 σ2 ρ2 ∧ (∀ a, a ∈ us → F2 a = none ∧ H2 a = H a) ∧ Free B σ2 ρ2 us := by
  have yes : ∀ a, a ∈ us → gdH B H us a = H a := fun a ha => if_pos ha
  have no : ∀ a, a ∉ us → gdH B H us a = B.H0 a := fun a ha => if_neg ha
  have nof : ∀ i a, SFp σ ρ i a → a ∉ us := fun i a h z => (fr a z).2 i h
  have pinf : ∀ i a, B.pin = some (i, a) → a ∉ us := fun i a e z => by
    obtain ⟨q1, q2⟩ := E.pin i a e
    rcases q2 with ⟨⟨xs, q2⟩, _⟩ | ⟨⟨ks, xs, q2⟩, _⟩
    · exact nof i a ⟨_, _, q2, q1, rfl⟩ z
    · exact nof i a ⟨_, _, q2, q1, rfl⟩ z
  have live : ∀ a, a ∈ us → gdH B H us a ≠ none := fun a ha => by
    obtain ⟨_, o, e, _⟩ := lv a ha
    rw [yes a ha, e]
    exact fun z => nomatch z
  have b0 : ∀ a, gdH B H us a = none → a ∉ us ∧ B.H0 a = none := fun a h => by
    have c : a ∉ us := fun z => live a z h
    exact ⟨c, by rw [← no a c]; exact h⟩
  intro F2 H2 σ2 ρ2 E2
  refine ⟨⟨⟨E.st.f0.trans E2.st.f0, E2.st.fh, fun a o e n m => ?_, fun a h => ?_, fun a h1 h2 => ?_, E2.st.tf, E2.st.tab⟩, E2.len, E2.sl, E2.sep, fun i a h => ?_, fun i a e => ?_⟩, fun a ha => ?_, fun a ha => ⟨(fr a ha).1, fun i h => ?_⟩⟩
  · have c : a ∉ us := fun z => by rw [(fr a z).1] at e; cases e
    exact E2.st.h0 a o ((no a c).trans e) n m
  · have c : a ∉ us := fun z => h (fr a z).1
    exact E2.st.th a fun z => h ((no a c).symm.trans z)
  · have c : a ∉ us := fun z => h2 (fr a z).1
    exact E2.st.nf a (E.st.nf a h1 h2) fun z => h2 ((no a c).symm.trans z)
  · rcases E2.mine i a h with k | k
    · exact .inl (b0 a k).2
    · exact .inr k
  · obtain ⟨q1, q2⟩ := E2.pin i a e
    rw [show (⟨F, gdH B H us, B.pin⟩ : Bs).H0 a = B.H0 a from no a (pinf i a e)] at q2
    exact ⟨q1, q2⟩
  · obtain ⟨k1, o, k2, k3⟩ := lv a ha
    refine ⟨E2.st.nf a k1 (live a ha), ?_⟩
    rw [k2]
    exact E2.st.h0 a o ((yes a ha).trans k2) (fun i z => pinf i a z ha) k3
  · rcases E2.mine i a h with k | k
    · exact live a ha k
    · exact pinf i a k ha
/-- what follows a loop over a locked dict -/
abbrev ZLk (Z : Zs) (j : Nat) (d : Addr) (ks : List Key) (xs : List PyData) : Zs := ⟨fun ρ' => ρ'[j]? = some (some (.raw (.ref d))) ∧ Z.nx (ρ'.set j (some (.ownD ks xs))), fun _ _ => False, fun _ => False, fun _ => False⟩
/-- for k in d: d an own dict; it is locked and read only within -/
theorem ws_forKeys {j : Nat} {g : TG} {tS : TS} {ks : List Key} {xs : List PyData} (hj : ρ[j]? = some (some (.ownD ks xs))) (np : NP B j)
    (h : ∀ (B' : Bs) (d : Addr), B'.pin = B.pin → (∀ E C, EK B K E C → EK B' K E C) → DAt K d ks xs B' → Loop B' K g tS keyD ks (ρ.set j (some (.raw (.ref d)))) (ZLk Z j d ks xs)) :
    WS B K (tLock (tFor (iKeys (tVar j)) g tS)) ρ Z := fun F H σ E D ok => by
  obtain ⟨v, e, E1, ⟨d, ws, rfl, fd, hd, hkl, ra⟩, hf⟩ := E.giveL hj np
  obtain ⟨h0d, hsd⟩ := hf d rfl
  refine ⟨d, _, hd, True.intro, fun od => ?_⟩
  have E2 := E1.poke (o := .frz od (.dK (ks.zip ws))) fd h0d hsd (fun u e => by rw [hd] at e; cases e; exact nt_dK _)
  have hl : j < σ.length := (List.getElem?_eq_some_iff.mp e).1
  have eσ : σ.set j (some (.ref d)) = σ := by
    refine List.ext_getElem? fun i => ?_
    by_cases c : i = j
    · subst c; rw [List.getElem?_set_self hl, e]
    · rw [List.getElem?_set_ne (Ne.symm c)]
  have E3 := E2.setD (i := j) (l := .raw (.ref d)) (v := .ref d) rfl rfl np
  rw [eσ, List.set_set] at E3
  have fr3 : Free B σ (ρ.set j (some (.raw (.ref d)))) [d] := fun a ha => by
    rw [List.mem_singleton.mp ha]
    refine ⟨h0d, fun i ⟨m, w, q1, q2, q3⟩ => ?_⟩
    rcases set_cases q1 with ⟨rfl, _, ee⟩ | ⟨n, ee⟩
    · cases ee; exact q3
    · refine hsd i ⟨m, w, ?_, q2, q3⟩
      rw [List.getElem?_set_ne (Ne.symm n)]
      exact ee
  have lv : ∀ a, a ∈ [d] → F a = none ∧ ∃ o, upd H d (.frz od (.dK (ks.zip ws))) a = some o ∧ ∀ ps, o ≠ .tbl ps := fun a ha => by rw [List.mem_singleton.mp ha]; exact ⟨fd, _, upd_same, fun _ z => by cases z⟩
  obtain ⟨g1, _⟩ := E3.guard fr3 lv
  have g2 := E3.unguard fr3 lv
  have hdl : ∀ F' H' σ' ρ', EnvOk ⟨F, gdH B (upd H d (.frz od (.dK (ks.zip ws)))) [d], B.pin⟩ K F' H' σ' ρ' → H' d = some (.frz od (.dK (ks.zip ws))) := fun F' H' σ' ρ' E' => by
    obtain ⟨_, keep, _⟩ := g2 F' H' σ' ρ' E'
    rw [(keep d List.mem_cons_self).2, upd_same]
  have hzl : (ks.zip ws).length = ks.length := by rw [List.length_zip, ra.length, ← hkl, Nat.min_self]
  have hgk : ∀ (i : Nat) (k : Key), ks[i]? = some k → ∃ w, (ks.zip ws)[i]? = some (k, w) := fun i k hk => by
    have hi := (List.getElem?_eq_some_iff.mp hk).1
    have hiw : i < ws.length := by rw [ra.length, ← hkl]; exact hi
    exact ⟨ws[i], List.getElem?_zip_eq_some.mpr ⟨hk, List.getElem?_eq_getElem hiw⟩⟩
  have okZ : ZOk ⟨F, gdH B (upd H d (.frz od (.dK (ks.zip ws)))) [d], B.pin⟩ K F (ZLk Z j d ks xs) ⟨fun σ' H' => H' d = some (.frz od (.dK (ks.zip ws))) ∧ D.nx σ' (upd H' d (.dK (ks.zip ws))), fun v H' => H' d = some (.frz od (.dK (ks.zip ws))) ∧ D.rt v (upd H' d (.dK (ks.zip ws))), fun σ' H' => H' d = some (.frz od (.dK (ks.zip ws))) ∧ D.bk σ' (upd H' d (.dK (ks.zip ws))), fun σ' H' => H' d = some (.frz od (.dK (ks.zip ws))) ∧ D.ct σ' (upd H' d (.dK (ks.zip ws)))⟩ := by
    refine ⟨fun F' H' σ' ρ' E' e' ⟨q1, q2⟩ => ⟨hdl F' H' σ' ρ' E', ?_⟩, fun _ _ _ _ _ _ _ _ _ z => z.elim, fun _ _ _ _ _ _ z => z.elim, fun _ _ _ _ _ _ z => z.elim⟩
    obtain ⟨E4, keep, fr4⟩ := g2 F' H' σ' ρ' E'
    have fd4 := (keep d List.mem_cons_self).1
    have E5 := E4.poke (o := .dK (ks.zip ws)) fd4 h0d (fr4 d List.mem_cons_self).2 (fun u e => by rw [hdl F' H' σ' ρ' E'] at e; cases e; exact ⟨(fun _ z => by cases z), (fun _ z => by cases z)⟩)
    have rvd : ROk B K F' (upd H' d (.dK (ks.zip ws))) σ' ρ' (.ref d) (.newD ks xs) := ⟨d, ws, rfl, fd4, upd_same, hkl, ra.mono e', h0d, (fr4 d List.mem_cons_self).2⟩
    have E6 := E5.setND (i := j) rvd np
    obtain ⟨v', ev', sv'⟩ := E'.sl j _ q1
    have ev2 : v' = .ref d := sv'
    subst ev2
    have hl' : j < σ'.length := (List.getElem?_eq_some_iff.mp ev').1
    have eσ' : σ'.set j (some (.ref d)) = σ' := by
      refine List.ext_getElem? fun i => ?_
      by_cases c : i = j
      · subst c; rw [List.getElem?_set_self hl', ev']
      · rw [List.getElem?_set_ne (Ne.symm c)]
    rw [eσ'] at E6
    exact ok.nx F' _ σ' _ E6 e' q2
  obtain ⟨I, i0, is, id⟩ := h ⟨F, gdH B (upd H d (.frz od (.dK (ks.zip ws)))) [d], B.pin⟩ d rfl (fun XE C hk F' H' σ' ρ' E' => hk F' H' σ' ρ' (g2 F' H' σ' ρ' E').1)
    ⟨hkl, od, ws, by
      show gdH B (upd H d (.frz od (.dK (ks.zip ws)))) [d] d = _
      unfold gdH
      rw [if_pos List.mem_cons_self, upd_same], ra⟩
  refine ⟨.ref d, e, d, od, rfl, .inl ⟨_, upd_same, loop_gen (J := Itk d od (ks.zip ws)) (f := keyD) (as := ks) (fun _ => True) g1 (Ex.refl F) okZ (fun i k F' H' σ' ρ' hk E' e' _ => ⟨hdl F' H' σ' ρ' E', by rw [hzl]; exact (List.getElem?_eq_some_iff.mp hk).1⟩) (fun i F' H' σ' ρ' hi E' e' _ => ⟨hdl F' H' σ' ρ' E', by rw [hzl]; exact hi⟩) (fun i k F' H' σ' ρ' x H2 hk E' e' _ hy => ?_) I (fun _ _ _ => trivial) i0 is id⟩⟩
  obtain ⟨eH, k2, w2, hk2, rfl⟩ := hy
  obtain ⟨w, hw⟩ := hgk i k hk
  rw [hw] at hk2
  cases hk2
  subst eH
  exact ⟨F', E', Ex.refl F', key_rp k⟩
end
end SV

set_option maxHeartbeats 1000000
/-! products of wide numbers; a law whose script's numbers are bounded -/
namespace SV
open PySem PySem.Spec L2 PyProof.Rows
open Evl (Ex)
variable [Tbs]
def CMulW (i j : Int) : Prop := IntMulOk i j
theorem mulW_ok {i j : Int} (h : Builtin.Int.intBits i + Builtin.Int.intBits j ≤ 134217728) : CMulW i j := by
  intro z
  rw [Bool.and_eq_true] at z
  have z2 := of_decide_eq_true z.2
  unfold bitsLine at z2
  omega
theorem op_mulW {X : Cx} : OpR X (binaryOp .Mult) (rI CMulW fun i j => .int (i * j)) := opI fun _ _ _ _ _ _ _ hc q => mul_int q hc
theorem wd_mulW {B : Bs} {K : Fr} {ρ : En} {ta tb : TE} {QD : PyData → En → Prop} (h : WD B K ta ρ fun x ρ1 => ∃ i, x = .int i ∧ WD B K tb ρ1 fun y ρ2 => ∃ j, y = .int j ∧ CMulW i j ∧ QD (.int (i * j)) ρ2) : WD B K (tOp (rI CMulW fun i j => .int (i * j)) ta tb) ρ QD :=
  wd_iop (C := CMulW) (g := fun i j => i * j) h
theorem bits_le {i : Int} {k : Nat} (h : i.natAbs < 2 ^ k) : Builtin.Int.intBits i ≤ k := by
  unfold Builtin.Int.intBits
  split
  · exact Nat.zero_le _
  · rename_i c
    have hi : i.natAbs ≠ 0 := fun z => c (by rw [beq_iff_eq]; omega)
    have := (Nat.log2_lt hi).mpr h
    omega
theorem bits_lt {i : Int} {k : Nat} (h : Builtin.Int.intBits i ≤ k) : i.natAbs < 2 ^ k := by
  unfold Builtin.Int.intBits at h
  split at h
  · rename_i c
    rw [beq_iff_eq] at c
    subst c
    exact Nat.two_pow_pos k
  · rename_i c
    have hi : i.natAbs ≠ 0 := fun z => c (by rw [beq_iff_eq]; omega)
    exact (Nat.log2_lt hi).mp (by omega)
/-- the law's own meaning: True, of a script whose numbers are bounded -/
def G_lawB : GF := fun ls Po _ => ∃ ns : List Int, ls = [.scr ns] ∧ (ns.length ≤ 63 ∧ ∀ z : Int, z ∈ ns → Builtin.Int.intBits z ≤ 1048576) ∧ Po (.d (.bool true)) []
theorem law_spB {K : Fr} {H : Hp} {a : Addr} {ns : List Int} (hT : LamX.Tabs (Tbs.T.map (·.2)) H) (hS : SqL K H a (ns.map V.int)) (hl : ns.length ≤ 63) (hb : ∀ z : Int, z ∈ ns → Builtin.Int.intBits z ≤ 1048576) : SpG K none G_lawB [.ref a] H (fun v _ => v = .bl true) fun _ _ _ => False := by
  refine ⟨ntb H, ntb H, [.scr ns], fun r _ => r = .d (.bool true), fun _ => False, args_pl (vs := [.ref a]) (ntb_ex H) ⟨ntb_tf H, hT⟩ rfl (fun i l e => ?_), ⟨ns, rfl, ⟨hl, hb⟩, rfl⟩, fun v r F' H' ys st rv _ q => ?_, fun C F' H' ys _ _ h => h⟩
  · cases i with
    | zero => cases e; exact ⟨⟨.ref a, rfl, a, rfl, ntb_sl hS⟩, rfl⟩
    | succ i => simp at e
  · subst q
    cases (show Rp K F' v (.bool true) from rv)
    rfl
end SV

set_option maxHeartbeats 1000000
/-! a comprehension over an own list -/
namespace SV
open PySem PySem.Spec L2 PyProof.Rows
open Evl (Ex)
variable [Tbs]
theorem we_lcO {B : Bs} {K : Fr} {ρ : En} {te : TE} {Q : R → En → Prop} {α : Type} {g : TG} {tt : TT} {vs : List Nat} {j : Nat} {as : List α} (f : α → PyData) (P : α → Option PyData → Prop) (gv : GV g vs) (hj : ρ[j]? = some (some (.own (as.map f)))) (hz : as.length ≤ lim) (hc : Comp K g tt te vs f as ρ P) (q : ∀ ys, Sel P as ys → Q (.new ys) ρ) :
    WE B K (tLc (iList K (tVar j)) g tt te vs) ρ Q := fun F H σ E QQ k => by
  obtain ⟨a, ws, e, fa, ha, ra⟩ := E.own_at hj
  have at' : ∀ F' H', EnvOk B K F' H' σ ρ → ∃ vs', H' a = some (.lst vs') ∧ RpA K F' vs' (as.map f) := fun F' H' E' => by
    obtain ⟨a', vs', e', _, h1, h2⟩ := E'.own_at hj
    rw [e] at e'
    cases e'
    exact ⟨vs', h1, h2⟩
  refine ⟨.ref a, e, a, rfl, ⟨ws, .inl (.inl ha)⟩, lc_genB (J := Itl K a) (f := f) (as := as) (fun _ => True) gv E (Ex.refl F) hz (fun _ _ _ _ => trivial) (fun i b F' H' hb E' => ?_) (fun i F' H' hi E' => ?_) (fun i b F' H' x H2 hb E' e' hy => ?_) (fun a ha B hB _ => hc a ha B hB) fun v F' H' ys E' e' rv sel => k v (.new ys) F' H' ρ E' e' rv (q ys sel)⟩
  · obtain ⟨vs', h1, h2⟩ := at' F' H' E'
    obtain ⟨w, hw, _⟩ := at_map' h2 hb
    exact ⟨vs', w, .inl (.inl h1), hw⟩
  · obtain ⟨vs', h1, h2⟩ := at' F' H' E'
    exact ⟨vs', .inl (.inl h1), by rw [h2.length, List.length_map]; exact hi⟩
  · obtain ⟨vs', h1, h2⟩ := at' F' H' E'
    obtain ⟨rfl, hy⟩ := hy
    exact ⟨rfl, at_map h2 hb (hy vs' (.inl (.inl h1)))⟩
end SV

set_option maxHeartbeats 1000000
/-! list(zip(a, b)) of two lists of one length -/
namespace SV
open PySem PySem.Spec L2 PyProof.Rows
open Evl (Ex)
theorem zip_no_len : typeLookup (.type "zip") "__len__" = pure none := by rw [typeLookup_type, builtinLookup_eq_fast]; kernel_rfl
theorem zip_no_hint : typeLookup (.type "zip") "__length_hint__" = pure none := by rw [typeLookup_type, builtinLookup_eq_fast]; kernel_rfl
/-- a zip amid its turns; S is the list that is filled -/
structure Zst (h : Heap) (z TI TO i1 i2 l1 l2 S : Addr) (i : Nat) (xs ys : Array Value) : Prop where
  ti : IsPair h TI (.ref i1) (.ref i2)
  a1 : h.IsListIter i1 l1 i
  a2 : h.IsListIter i2 l2 i
  b1 : h.IsList l1 xs
  b2 : h.IsList l2 ys
  zp : (IsZip h z TI TO .none ∧ ∃ a b, IsPair h TO a b) ∨ ∃ (T : Addr) (f : Bool) (oT : Obj), IsZipHeld h z TI TO T f ∧ h.get? T = some oT ∧ T ≠ z ∧ T ≠ i1 ∧ T ≠ i2 ∧ T ≠ S
structure Zoff (z TI TO i1 i2 l1 l2 S : Addr) : Prop where
  z : z ≠ S
  ti : TI ≠ S
  to : TO ≠ S
  i1 : i1 ≠ S
  i2 : i2 ≠ S
  l1 : l1 ≠ S
  l2 : l2 ≠ S
theorem iter_keep {h h' : Heap} {it l : Addr} {i : Nat} (x : h.IsListIter it l i) (k : ∀ o, h.get? it = some o → h'.get? it = some o) : h'.IsListIter it l i := x.at k
theorem list_keep {h h' : Heap} {l : Addr} {xs : Array Value} (x : h.IsList l xs) (k : ∀ o, h.get? l = some o → h'.get? l = some o) : h'.IsList l xs := let ⟨o, e, r⟩ := x; ⟨o, k o e, r⟩
theorem Zst.stay {h h' : Heap} {z TI TO i1 i2 l1 l2 S : Addr} {i : Nat} {xs ys : Array Value} (o : Zoff z TI TO i1 i2 l1 l2 S) (x : Zst h z TI TO i1 i2 l1 l2 S i xs ys) (k : ∀ b u, b ≠ S → h.get? b = some u → h'.get? b = some u) : Zst h' z TI TO i1 i2 l1 l2 S i xs ys := by
  refine ⟨k _ _ o.ti x.ti, iter_keep x.a1 fun u => k _ u o.i1, iter_keep x.a2 fun u => k _ u o.i2, list_keep x.b1 fun u => k _ u o.l1, list_keep x.b2 fun u => k _ u o.l2, ?_⟩
  rcases x.zp with ⟨e, a, b, e2⟩ | ⟨T, f, oT, e, e2, n1, n2, n3, n4⟩
  · exact .inl ⟨k _ _ o.z e, a, b, k _ _ o.to e2⟩
  · exact .inr ⟨T, f, oT, k _ _ o.z e, k _ _ n4 e2, n1, n2, n3, n4⟩
section
variable {prog : Program} {w : World} {A : Around} {E : Value → Shared → Prop} {s : Shared} {z TI TO i1 i2 l1 l2 S : Addr} {xs ys : Array Value}
theorem zl_item {i : Nat} {x y : Value} {Q : Option Value → Shared → Prop} (D : ZipApart z TI TO i1 i2 l1 l2) (st : Zst s.heap z TI TO i1 i2 l1 l2 S i xs ys) (hS : S < s.heap.objs.size) (hx : xs[i]? = some x) (hy : ys[i]? = some y)
    (hQ : ∀ h', Zst h' z TI TO i1 i2 l1 l2 S (i + 1) xs ys → IsPair h' s.heap.objs.size x y → h'.objs.size = s.heap.objs.size + 1 → (∀ b u, b ≠ z → b ≠ TO → b ≠ i1 → b ≠ i2 → s.heap.get? b = some u → h'.get? b = some u) → Q (some (.ref s.heap.objs.size)) { s with heap := h' }) :
    wpAny (model prog w) A (pyNext (.ref z)) Q E s := by
  have lz : ∀ {b : Addr} {u : Obj}, s.heap.get? b = some u → s.heap.objs.size ≠ b := fun e => Nat.ne_of_gt (Heap.lt_size e)
  obtain ⟨q1, q2, q3, q4, q5, q6⟩ := st
  obtain ⟨o1, e1, _⟩ := id q2
  obtain ⟨o2, e2, _⟩ := id q3
  have ne : ∀ h' : Heap, (∀ b u, b ≠ z → b ≠ TO → b ≠ i1 → b ≠ i2 → s.heap.get? b = some u → h'.get? b = some u) → IsPair h' TI (.ref i1) (.ref i2) ∧ h'.IsList l1 xs ∧ h'.IsList l2 ys := fun h' kp =>
    ⟨kp _ _ D.TIz D.TITO D.TIi1 D.TIi2 q1, list_keep q4 fun u => kp _ u D.l1z D.l1TO D.l1i1 D.l1i2, list_keep q5 fun u => kp _ u D.l2z D.l2TO D.l2i1 D.l2i2⟩
  rcases q6 with ⟨e, a, b, e'⟩ | ⟨T, f, oT, e, e', n1, n2, n3, n4⟩
  · refine wpAny_pyNext_zip_item D e q1 e' q2 q3 q4 q5 hx hy fun h' f1 f2 f3 f4 f5 f6 f7 => ?_
    obtain ⟨g1, g2, g3⟩ := ne h' f7
    exact hQ h' ⟨g1, f3, f4, g2, g3, .inr ⟨_, false, _, f1, f5, lz e, lz e1, lz e2, Nat.ne_of_gt hS⟩⟩ f5 f6 f7
  · refine wpAny_pyNext_zip_item_held D e e' q1 q2 q3 q4 q5 hx hy fun h' f1 f3 f4 f5 f6 f7 => ?_
    have f7' : ∀ b u, b ≠ z → b ≠ TO → b ≠ i1 → b ≠ i2 → s.heap.get? b = some u → h'.get? b = some u := fun b u c1 _ c2 c3 => f7 b u c1 c2 c3
    obtain ⟨g1, g2, g3⟩ := ne h' f7'
    exact hQ h' ⟨g1, f3, f4, g2, g3, .inr ⟨T, true, oT, f1, f7 _ _ n1 n2 n3 e', n1, n2, n3, n4⟩⟩ f5 f6 f7'
theorem zl_done {i : Nat} {Q : Option Value → Shared → Prop} (hh : A.handled = none) (D : ZipApart z TI TO i1 i2 l1 l2) (st : Zst s.heap z TI TO i1 i2 l1 l2 S i xs ys) (hx : xs[i]? = none)
    (hQ : ∀ h', (∀ b u, b ≠ z → b ≠ TO → b ≠ i1 → b ≠ i2 → s.heap.get? b = some u → h'.get? b = some u) → Q none { s with heap := h' }) : wpAny (model prog w) A (pyNext (.ref z)) Q E s := by
  obtain ⟨q1, q2, q3, q4, q5, q6⟩ := st
  rcases q6 with ⟨e, a, b, e'⟩ | ⟨T, f, oT, e, e', _⟩
  · exact wpAny_pyNext_zip_end hh D e q1 e' q2 q3 q4 q5 (.inl hx) hQ
  · exact wpAny_pyNext_zip_end_held hh D e e' q1 q2 q3 q4 q5 (.inl hx) fun h' kp => hQ h' fun b u c1 _ c2 c3 => kp b u c1 c2 c3
/-- the tuples made so far -/
structure Zg (xs ys : Array Value) (lo : Addr) (h : Heap) (as : List Addr) : Prop where
  up : as.Pairwise (· < ·)
  lo : ∀ a, a ∈ as → lo < a
  has : ∀ (j : Nat) (a : Addr), as[j]? = some a → ∃ x y, xs[j]? = some x ∧ ys[j]? = some y ∧ IsPair h a x y
end
section
variable {prog : Program} {w : World} {A : Around} {s : Shared} {R : Result → Shared → Prop} {z TI TO i1 i2 l1 l2 S : Addr} {xs ys : Array Value}
abbrev lstO (acc : Array Value) (c : Nat) : Obj := { cls := .type "list", dict := none, data := .seq acc c, slots := #[] }
theorem zl_loop (hh : A.handled = none) (D : ZipApart z TI TO i1 i2 l1 l2) (o : Zoff z TI TO i1 i2 l1 l2 S) (hle : z ≤ S ∧ TO ≤ S ∧ i1 ≤ S ∧ i2 ≤ S) (hxy : ys.size = xs.size) (hn : xs.size ≤ sizeLine) (res : Value) {h₁ : Heap}
    (hR : ∀ h' tk acc c as, (∀ b u, b ≠ S → b ≠ z → b ≠ TO → b ≠ i1 → b ≠ i2 → h₁.get? b = some u → h'.get? b = some u) → h'.get? S = some (lstO acc c) → as.length = xs.size → Zg xs ys S h' as → acc.toList = as.map Value.ref → R (.ok (.ret res)) { s with heap := h', toks := tk }) :
    ∀ (k i : Nat) (h : Heap) (tk c : Nat) (acc : Array Value) (as : List Addr), xs.size - i = k → i ≤ xs.size → Zst h z TI TO i1 i2 l1 l2 S i xs ys → (∀ b u, b ≠ S → b ≠ z → b ≠ TO → b ≠ i1 → b ≠ i2 → h₁.get? b = some u → h.get? b = some u) →
      h.get? S = some (lstO acc c) → acc.toList = as.map Value.ref → as.length = i → Zg xs ys S h as → codeAny (model prog w) A (.builtin "list.extend.loop" ⟨[.ref S, .ref z, res], []⟩) R { s with heap := h, toks := tk } := by
  intro k
  induction k with
  | zero =>
    intro i h tk c acc as hk hi hst hkp hS hacc hal hG
    have hin : i = xs.size := by omega
    refine codeAny_builtin F.entry_extend_loop ?_; rw [Around.under_plainId F.plain_extend_loop _]; show wpAny _ A.in1 (pyNext (.ref z) >>= _) _ _ _
    refine wpAny_bind (zl_done (s := { s with heap := h, toks := tk }) (A := A.in1) hh D hst (by rw [hin]; simp) fun h' he => ?_)
    refine wpAny_pure (hR h' tk acc c as (fun b u c0 c1 c2 c3 c4 e => he b u c1 c2 c3 c4 (hkp b u c0 c1 c2 c3 c4 e)) (he S _ o.z.symm o.to.symm o.i1.symm o.i2.symm hS) (by omega) ⟨hG.up, hG.lo, fun j a hj => ?_⟩ hacc)
    obtain ⟨x, y, q1, q2, q3⟩ := hG.has j a hj
    have la := hG.lo a (List.mem_of_getElem? hj)
    exact ⟨x, y, q1, q2, he a _ (Nat.ne_of_gt (Nat.lt_of_le_of_lt hle.1 la)) (Nat.ne_of_gt (Nat.lt_of_le_of_lt hle.2.1 la)) (Nat.ne_of_gt (Nat.lt_of_le_of_lt hle.2.2.1 la)) (Nat.ne_of_gt (Nat.lt_of_le_of_lt hle.2.2.2 la)) q3⟩
  | succ k ih =>
    intro i h tk c acc as hk hi hst hkp hS hacc hal hG
    have hlt : i < xs.size := by omega
    have hx := Array.getElem?_eq_getElem hlt
    have hy := Array.getElem?_eq_getElem (show i < ys.size by omega)
    have hsz : acc.size = i := by rw [← Array.length_toList, hacc, List.length_map, hal]
    refine codeAny_builtin F.entry_extend_loop ?_; rw [Around.under_plainId F.plain_extend_loop _]; show wpAny _ A.in1 (pyNext (.ref z) >>= _) _ _ _
    refine wpAny_bind (zl_item (s := { s with heap := h, toks := tk }) (A := A.in1) D hst (Heap.lt_size hS) hx hy fun h' f1 f2 f3 f4 => ?_)
    have hS' := f4 S _ o.z.symm o.to.symm o.i1.symm o.i2.symm hS
    have hSl : S < h.objs.size := Heap.lt_size hS
    show wpAny _ A.in1 (updateSeq S (·.push (Value.ref h.objs.size)) >>= _) _ _ _
    refine wpAny_bind (wpAny_updateSeq hS' rfl (wpAny_pure ⟨plainId_quiet F.plain_extend_loop _, ?_⟩) (by omega) (by rw [Array.size_push]; omega))
    have oth : ∀ b u, b ≠ S → h'.get? b = some u → (h'.update S (Obj.mapSeq (·.push (Value.ref h.objs.size)))).get? b = some u := fun b u c e => (Heap.get?_update_other _ _ (Ne.symm c)).trans e
    refine ih (i + 1) _ _ _ (acc.push (.ref h.objs.size)) (as ++ [h.objs.size]) (by omega) hlt (f1.stay o oth) (fun b u c0 c1 c2 c3 c4 e => oth b u c0 (f4 b u c1 c2 c3 c4 (hkp b u c0 c1 c2 c3 c4 e))) (Heap.get?_update_self _ hS' rfl) (by rw [Array.toList_push, hacc, List.map_append]; rfl) (by rw [List.length_append, hal]; rfl) ⟨?_, fun a ha => ?_, fun j a hj => ?_⟩
    · refine List.pairwise_append.mpr ⟨hG.up, List.pairwise_singleton _ _, fun a ha b hb => ?_⟩
      rw [List.mem_singleton.mp hb]
      obtain ⟨j, hj⟩ := List.getElem?_of_mem ha
      obtain ⟨_, _, _, _, q3⟩ := hG.has j a hj
      exact Heap.lt_size q3
    · rcases List.mem_append.mp ha with ha | ha
      · exact hG.lo a ha
      · rw [List.mem_singleton.mp ha]; exact hSl
    · by_cases cj : j < as.length
      · rw [List.getElem?_append_left cj] at hj
        obtain ⟨x, y, q1, q2, q3⟩ := hG.has j a hj
        have la := hG.lo a (List.mem_of_getElem? hj)
        exact ⟨x, y, q1, q2, oth a _ (Nat.ne_of_gt la) (f4 a _ (Nat.ne_of_gt (Nat.lt_of_le_of_lt hle.1 la)) (Nat.ne_of_gt (Nat.lt_of_le_of_lt hle.2.1 la)) (Nat.ne_of_gt (Nat.lt_of_le_of_lt hle.2.2.1 la)) (Nat.ne_of_gt (Nat.lt_of_le_of_lt hle.2.2.2 la)) q3)⟩
      · have hl := (List.getElem?_eq_some_iff.mp hj).1
        rw [List.length_append] at hl
        simp only [List.length_cons, List.length_nil] at hl
        rw [List.getElem?_append_right (by omega), show j - as.length = 0 by omega] at hj
        cases hj
        rw [show j = i by omega]
        exact ⟨_, _, hx, hy, oth _ _ (Nat.ne_of_gt hSl) f2⟩
theorem zl_extend (hh : A.handled = none) (D : ZipApart z TI TO i1 i2 l1 l2) (o : Zoff z TI TO i1 i2 l1 l2 S) (hle : z ≤ S ∧ TO ≤ S ∧ i1 ≤ S ∧ i2 ≤ S) (hxy : ys.size = xs.size) (hn : xs.size ≤ sizeLine) (res : Value) (c₀ : Nat) (hS : s.heap.get? S = some (lstO #[] c₀)) (hz : IsZip s.heap z TI TO .none) (st : Zst s.heap z TI TO i1 i2 l1 l2 S 0 xs ys)
    (hR : ∀ h' tk acc c as, (∀ b u, b ≠ S → b ≠ z → b ≠ TO → b ≠ i1 → b ≠ i2 → s.heap.get? b = some u → h'.get? b = some u) → h'.get? S = some (lstO acc c) → as.length = xs.size → Zg xs ys S h' as → acc.toList = as.map Value.ref → R (.ok (.ret res)) { s with heap := h', toks := tk }) :
    wpAny (model prog w) A.in1 (Builtin.List.listExtendWith (.ref S) (.ref z) res) (fun fin s' => match fin with | .done f => R (.ok f) s' | .again c' => c'.quiet = true ∧ codeAny (model prog w) A c' R s') (fun e s' => R (.error e) s') s := by
  have hT : s.TypeIs (.ref z) "zip" := ⟨_, hz, rfl⟩
  unfold Builtin.List.listExtendWith
  refine wpAny_bind (wpAny_typeOf hT ?_)
  simp only [show Builtin.List.listSameRef (.ref S) (.ref z) = false by simp [Builtin.List.listSameRef, o.z.symm], show (Value.type "zip" == Value.type "list") = false by decide, show (Value.type "zip" == Value.type "tuple") = false by decide, Bool.or_false, Bool.false_eq_true, if_false]
  refine wpAny_bind (wpAny_pyIter_zip hz (wpAny_bind (wpAny_holding ?_)))
  unfold Builtin.List.listLengthHint
  refine wpAny_bind (wpAny_specialOf hT zip_no_len ?_); show wpAny _ A.in1 (specialOf (Value.ref z) (Str.ofString "__length_hint__") >>= _) _ _ _
  refine wpAny_bind (wpAny_specialOf hT zip_no_hint (wpAny_pure ?_)); show wpAny _ A.in1 (rule "list.extend.makes-room" >>= fun _ => Builtin.List.listTouch (.ref S) >>= fun _ => again (.builtin "list.extend.loop" ⟨[.ref S, .ref z, res], []⟩)) _ _ _
  refine wpAny_bind (wpAny_rule (wpAny_bind ?_)); show wpAny _ A.in1 (updateSeq S (·.push .none) >>= fun _ => updateSeq S (·.pop)) _ _ _
  have g2 := Heap.get?_update_self (Obj.mapSeq (·.push Value.none)) hS rfl
  have g3 := Heap.get?_update_self (Obj.mapSeq (·.pop)) g2 rfl
  have oth : ∀ b u, b ≠ S → s.heap.get? b = some u → ((s.heap.update S (Obj.mapSeq (·.push Value.none))).update S (Obj.mapSeq (·.pop))).get? b = some u := fun b u c e => (Heap.get?_update_other _ _ (Ne.symm c)).trans ((Heap.get?_update_other _ _ (Ne.symm c)).trans e)
  refine wpAny_bind (wpAny_updateSeq hS rfl (wpAny_updateSeq (hz := by seq_fits) g2 rfl (wpAny_pure ⟨plainId_quiet F.plain_extend_loop _, ?_⟩)))
  exact zl_loop (s := s) (h₁ := s.heap) hh D o hle hxy hn res hR xs.size 0 _ s.toks _ #[] [] (Nat.sub_zero _) (Nat.zero_le _) (st.stay o oth) (fun b u c _ _ _ _ e => oth b u c e) g3 rfl rfl ⟨List.Pairwise.nil, (fun _ h => nomatch h), fun j a hj => by simp at hj⟩
theorem zl_init (hh : A.handled = none) (D : ZipApart z TI TO i1 i2 l1 l2) (o : Zoff z TI TO i1 i2 l1 l2 S) (hle : z ≤ S ∧ TO ≤ S ∧ i1 ≤ S ∧ i2 ≤ S) (hxy : ys.size = xs.size) (hn : xs.size ≤ sizeLine) (hS : s.heap.get? S = some (lstO #[] 0)) (hz : IsZip s.heap z TI TO .none) (st : Zst s.heap z TI TO i1 i2 l1 l2 S 0 xs ys)
    (hR : ∀ h' tk acc c as, (∀ b u, b ≠ S → b ≠ z → b ≠ TO → b ≠ i1 → b ≠ i2 → s.heap.get? b = some u → h'.get? b = some u) → h'.get? S = some (lstO acc c) → as.length = xs.size → Zg xs ys S h' as → acc.toList = as.map Value.ref → R (.ok (.ret .none)) { s with heap := h', toks := tk }) :
    wpAny (model prog w) A.in1 (Builtin.«list.__init__» ⟨[.ref S, .ref z], []⟩) (fun fin s' => match fin with | .done f => R (.ok f) s' | .again c' => c'.quiet = true ∧ codeAny (model prog w) A c' R s') (fun e s' => R (.error e) s') s := by
  show wpAny _ A.in1 (do let was ← Builtin.List.listItems (.ref S); Builtin.List.listUpdate (.ref S) (fun _ => #[]); letGo was.toList.reverse; Builtin.List.listExtendWith (.ref S) (.ref z) .none) _ _ s
  unfold Builtin.List.listItems
  refine wpAny_bind (wpAny_bind (wpAny_seqItems hS rfl (wpAny_pure ?_))); show wpAny _ A.in1 (updateSeq S (fun _ => #[]) >>= fun _ => letGo (#[] : Array Value).toList.reverse >>= fun _ => Builtin.List.listExtendWith (.ref S) (.ref z) .none) _ _ s
  have g2 := Heap.get?_update_self (Obj.mapSeq (fun _ => (#[] : Array Value))) hS rfl
  have oth : ∀ b u, b ≠ S → s.heap.get? b = some u → (s.heap.update S (Obj.mapSeq (fun _ => (#[] : Array Value)))).get? b = some u := fun b u c e => (Heap.get?_update_other _ _ (Ne.symm c)).trans e
  refine wpAny_bind (wpAny_updateSeq hS rfl (wpAny_bind (wpAny_letGo ?_)))
  exact zl_extend hh D o hle hxy hn .none _ g2 (oth _ _ o.z hz) (st.stay o oth) fun h' tk acc c as hk => hR h' tk acc c as fun b u c0 c1 c2 c3 c4 e => hk b u c0 c1 c2 c3 c4 (oth b u c0 e)
end
section
variable {prog : Program} {w : World} {A : Around} {E : Value → Shared → Prop} {s : Shared} {l1 l2 : Addr} {xs ys : Array Value}
theorem zl_call {Q : Value → Shared → Prop} (hh : A.handled = none) (hb1 : s.heap.IsList l1 xs) (hb2 : s.heap.IsList l2 ys) (hxy : ys.size = xs.size) (hn : xs.size ≤ sizeLine) {n : Nat} {h : Heap} (hs : n + 5 = h.objs.size) (hl1 : l1 < n) (hl2 : l2 < n)
    (hz : IsZip h (n + 4) (n + 2) (n + 3) .none) (hTI : IsPair h (n + 2) (.ref n) (.ref (n + 1))) (hTO : ∃ a b, IsPair h (n + 3) a b) (h1 : h.IsListIter n l1 0) (h2 : h.IsListIter (n + 1) l2 0) (hb1' : h.IsList l1 xs) (hb2' : h.IsList l2 ys)
    (hQ : ∀ h' tk acc c as, (∀ b u, b < n → h.get? b = some u → h'.get? b = some u) → h'.get? (n + 5) = some (lstO acc c) → as.length = xs.size → Zg xs ys (n + 5) h' as → acc.toList = as.map Value.ref → Q (.ref (n + 5)) { s with heap := h', toks := tk }) :
    wpAny (model prog w) A (call (.type "list") [.ref (n + 4)]) Q E { s with heap := h } := by
  refine callType_codes (Q₁ := fun obj s₁ => obj = .ref h.objs.size ∧ s₁ = { s with heap := h.push (lstO #[] 0) }) F.called_list (F.typeCall_list_1 _) F.entry_list_init (code_list_new _ ⟨rfl, rfl⟩) fun obj s₁ h₁ => ?_
  obtain ⟨rfl, rfl⟩ := h₁
  have hS : (h.push (lstO #[] 0)).get? h.objs.size = some (lstO #[] 0) := Heap.get?_push_size _ rfl
  have up : ∀ b u, h.get? b = some u → (h.push (lstO #[] 0)).get? b = some u := fun b u e => Heap.get?_push_of_some _ e
  obtain ⟨a, b, hTO⟩ := hTO
  rw [← hs] at hS ⊢
  have nz : ∀ k : Nat, k < n + 5 → (k : Addr) ≠ n + 5 := fun k hk => Nat.ne_of_lt hk
  refine ⟨⟨_, hS, rfl⟩, F.args_list_init_2 _ _, zl_init (s := { s with heap := h.push (lstO #[] 0) }) (A := A.in1) hh (PySem.W.ktu_apart n l1 l2 hl1 hl2) ⟨nz _ (by omega), nz _ (by omega), nz _ (by omega), nz _ (by omega), nz _ (by omega), nz _ (Nat.lt_of_lt_of_le hl1 (by omega)), nz _ (Nat.lt_of_lt_of_le hl2 (by omega))⟩ ⟨Nat.le_succ _, Nat.le_add_right (n + 3) 2, Nat.le_add_right n 5, Nat.le_add_right (n + 1) 4⟩ hxy hn hS (up _ _ hz)
    ⟨up _ _ hTI, iter_keep h1 fun u => up _ u, iter_keep h2 fun u => up _ u, list_keep hb1' fun u => up _ u, list_keep hb2' fun u => up _ u, .inl ⟨up _ _ hz, a, b, up _ _ hTO⟩⟩ fun h' tk acc c as hk hS' hl hG hacc => ?_⟩
  exact ⟨rfl, hQ h' tk acc c as (fun b u hb e => hk b u (Nat.ne_of_lt (Nat.lt_of_lt_of_le hb (Nat.le_add_right _ _))) (Nat.ne_of_lt (Nat.lt_of_lt_of_le hb (Nat.le_add_right _ _))) (Nat.ne_of_lt (Nat.lt_of_lt_of_le hb (Nat.le_add_right _ _))) (Nat.ne_of_lt hb) (Nat.ne_of_lt (Nat.lt_of_lt_of_le hb (Nat.le_add_right _ _))) (up b u e)) hS' hl hG hacc⟩
end
end SV

set_option maxHeartbeats 1000000
/-! list(zip(a, b)): the rule and its reading over data -/
namespace SV
open PySem PySem.Spec L2 PyProof.Rows
open Evl (Ex)
/-- the tuples laid at their addresses -/
def zpH : Hp → List Addr → List (V × V) → Hp
  | H, a :: as, p :: ps => zpH (upd H a (.tup [p.1, p.2])) as ps
  | H, _, _ => H
theorem zpH_off {b : Addr} : ∀ (as : List Addr) (ps : List (V × V)) (H : Hp), b ∉ as → zpH H as ps b = H b
  | [], _, _, _ => rfl
  | _ :: _, [], _, _ => rfl
  | a :: as, p :: ps, H, h => by
    show zpH (upd H a (.tup [p.1, p.2])) as ps b = H b
    rw [zpH_off as ps _ fun z => h (List.mem_cons_of_mem _ z), upd_ne fun z => h (by rw [z]; exact List.mem_cons_self)]
theorem zpH_at : ∀ (as : List Addr) (ps : List (V × V)) (H : Hp), as.length = ps.length → as.Nodup → ∀ (j : Nat) (a : Addr), as[j]? = some a → ∃ p, ps[j]? = some p ∧ zpH H as ps a = some (.tup [p.1, p.2])
  | [], _, _, _, _, j, a, h => by simp at h
  | _ :: _, [], _, h, _, _, _, _ => by cases h
  | b :: as, p :: ps, H, hl, hn, j, a, h => by
    have hn' := List.nodup_cons.mp hn
    cases j with
    | zero =>
      have e : b = a := Option.some.inj h
      subst e
      refine ⟨p, rfl, ?_⟩
      show zpH (upd H b (.tup [p.1, p.2])) as ps b = _
      rw [zpH_off as ps _ hn'.1, upd_same]
    | succ j => exact zpH_at as ps (upd H b (.tup [p.1, p.2])) (Nat.succ.inj hl) hn'.2 j a h
def rListZip (K : Fr) : List V → Hp → VK → Prop := fun vs H Q => ∃ (a b : Addr) (us ws : List V), vs = [.ref a, .ref b] ∧ SqL K H a us ∧ SqL K H b ws ∧ us.length = ws.length ∧
  ∀ (p : Addr) (ts : List Addr), H p = none → (∀ t, t ∈ ts → H t = none) → p ∉ ts → ts.Nodup → ts.length = us.length → Q (.ref p) (zpH (upd H p (.lst (ts.map V.ref))) ts (us.zip ws))
def tListZip (K : Fr) (ta : TA) : TE := fun σ H Q => ta σ H fun vs H1 => rListZip K vs H1 Q
theorem zl_laid {X : Cx} {pins : List (Addr × Obj)} {σ : L2.St} {H : Hp} {s : Shared} {h' : Heap} {tk : Nat} {us ws : List V} {its jts : List Value} {acc : Array Value} {c n : Nat} {as : List Addr} (I : Inv X pins σ H s) (hn : s.heap.objs.size ≤ n) (hl : us.length = ws.length) (hz : us.length ≤ sizeLine) (ru : Vals us its) (rw' : Vals ws jts)
    (hk : ∀ b o, s.heap.get? b = some o → h'.get? b = some o) (hS : h'.get? n = some (lstO acc c)) (hal : as.length = us.length) (hG : Zg its.toArray jts.toArray n h' as) (hacc : acc.toList = as.map Value.ref) :
    H n = none ∧ (∀ t, t ∈ as → H t = none) ∧ n ∉ as ∧ as.Nodup ∧ Inv X pins σ (zpH (upd H n (.lst (as.map V.ref))) as (us.zip ws)) { s with heap := h', toks := tk } := by
  have hSn : n ∉ as := fun z => Nat.lt_irrefl _ (hG.lo _ z)
  have nd : as.Nodup := hG.up.imp fun {a b} (h : a < b) => Nat.ne_of_lt h
  have new : ∀ t, t ∈ as → H t = none := fun t ht => I.hok.fresh (Nat.le_trans hn (Nat.le_of_lt (hG.lo t ht)))
  have newS : H n = none := I.hok.fresh hn
  have zl : as.length = (us.zip ws).length := by rw [List.length_zip, hal, ← hl, Nat.min_self]
  have atP := zpH_at as (us.zip ws) (upd H n (.lst (as.map V.ref))) zl nd
  have off : ∀ b, b ∉ as → b ≠ n → zpH (upd H n (.lst (as.map V.ref))) as (us.zip ws) b = H b := fun b h1 h2 => by rw [zpH_off as _ _ h1, upd_ne h2]
  have low : ∀ b o, s.heap.get? b = some o → b ∉ as ∧ b ≠ n := fun b o e => ⟨fun z => absurd (Nat.lt_of_lt_of_le (Heap.lt_size e) hn) (Nat.not_lt.mpr (Nat.le_of_lt (hG.lo b z))), Nat.ne_of_lt (Nat.lt_of_lt_of_le (Heap.lt_size e) hn)⟩
  have kp : ∀ b u, H b = some u → zpH (upd H n (.lst (as.map V.ref))) as (us.zip ws) b = some u := fun b u e => (off b (fun z => by rw [new b z] at e; cases e) fun z => by rw [z, newS] at e; cases e).trans e
  have eS : zpH (upd H n (.lst (as.map V.ref))) as (us.zip ws) n = some (.lst (as.map V.ref)) := by rw [zpH_off as _ _ hSn, upd_same]
  refine ⟨newS, new, hSn, nd, I.call' (ch := []) rfl ⟨fun b o q _ _ _ => hk b o q, fun b o q _ _ _ => ⟨o.slots, hk b o q⟩, fun b o q m _ => by rw [off b (low b o q).1 (low b o q).2]; exact m, fun b o q _ => ⟨o, hk b o q⟩, fun b xs q => kp b _ q, fun b o u q => kp b _ q, fun b ps q => ⟨#[], by rw [kp b _ q]; simp⟩⟩ (fun b u q => ?_) I.bare fun b z => by simp at z⟩
  by_cases hb : b ∈ as
  · obtain ⟨j, hj⟩ := List.getElem?_of_mem hb
    obtain ⟨p, e1, e2⟩ := atP j b hj
    rw [e2] at q
    cases q
    obtain ⟨x, y, f1, f2, f3⟩ := hG.has j b hj
    obtain ⟨g1, g2⟩ := List.getElem?_zip_eq_some.mp e1
    obtain ⟨x', k1, k2⟩ := ru.get g1
    obtain ⟨y', k3, k4⟩ := rw'.get g2
    rw [List.getElem?_toArray, k1] at f1
    rw [List.getElem?_toArray, k3] at f2
    have w1 := Option.some.inj f1
    have w2 := Option.some.inj f2
    subst w1 w2
    exact ⟨by show 2 ≤ sizeLine; decide, [x', y'], .cons k2 (.cons k4 .nil), ⟨_, f3, rfl, _, rfl⟩⟩
  · by_cases hb2 : b = n
    · rw [hb2] at q ⊢
      rw [eS] at q
      cases q
      exact ⟨by rw [List.length_map]; omega, acc.toList, c, by rw [hacc]; exact LiI.vals_refs as, by rw [Array.toArray_toList]; exact hS⟩
    · rw [off b hb hb2] at q
      exact (I.hok b u q).stay (fun d v _ y => hk d v y) (fun d y => kp d _ y) fun d xs y => kp d _ y
theorem k_listZip {X : Cx} {e e2 : Expr} {ta : TA} {p p2 pos pos2 : Pos} (K : Fr) (hK : X.K = K) (hc : X.calm = true) (hgl : Gl X "list") (hml : X.mg "list" = none) (hv : bootBuiltins "list" = some (.type "list")) (hg : Gl X "zip") (hm : X.mg "zip" = none) (ha : PA X [e, e2] ta)
    (hs0 : starEach [.Call (.Name "zip" p2) [e, e2] [] pos2] X.env = (false, eval (.Call (.Name "zip" p2) [e, e2] [] pos2) X.env) :: starEach [] X.env := by rfl)
    (hs : starEach [e, e2] X.env = (false, eval e X.env) :: starEach [e2] X.env := by rfl) (hpl : (backTo pos2 (starEach [e2] X.env)).any (·.1) = false := by rfl) :
    PE X (.Call (.Name "list" p) [.Call (.Name "zip" p2) [e, e2] [] pos2] [] pos) (tListZip K ta) := by
  subst hK
  refine ⟨fun pins s σ H Q I h => wpAny_Call_Name_kw (ld_blt I hgl hml hv (PyProof.Rows.callWith_type1 ?_ hs0 rfl))⟩
  rw [hs0]
  show wpAny _ _ (spliced ((false, eval (.Call (.Name "zip" p2) [e, e2] [] pos2) X.env) :: backTo pos (starEach [] X.env))) _ _ s
  refine Calls.spliced_cons (Call_ (ld_blt I hg hm PyProof.Rows.boot_zip (PyProof.Rows.callWith_type1 (thn (ha.run pos2 pins s σ H _ I h) fun vs s1 ⟨xs, H1, I1, r1, q1⟩ => ?_) hs hpl)))
  obtain ⟨a, b, us, ws, ex, hqx, hqy, hl, q⟩ := q1
  subst ex
  cases r1 with
  | cons r rr =>
    cases rr with
    | cons r' rr =>
      cases rr
      cases r
      cases r'
      obtain ⟨its, rv, p1, z1⟩ := I1.list hqx
      obtain ⟨jts, rv2, p2, _⟩ := I1.list hqy
      have e1 := rv.length
      have e2 := rv2.length
      refine call_zip_2 p1.isList p2.isList fun h1 hz hTI hTO k1 k2 hsz hk => Calls.spliced_nil ?_
      refine zl_call (s := s1) (I1.ok.hd hc) p1.isList p2.isList (by simp only [List.size_toArray]; omega) (by simp only [List.size_toArray]; omega) hsz.symm p1.lt p2.lt hz hTI ⟨_, _, hTO⟩ k1 k2 (list_keep p1.isList fun u => hk _ u) (list_keep p2.isList fun u => hk _ u) fun h' tk acc c as hk' hS hal hG hacc => ?_
      have hal' : as.length = us.length := by rw [hal]; simp only [List.size_toArray]; omega
      obtain ⟨f1, f2, f3, f4, J⟩ := zl_laid (tk := tk) I1 (Nat.le_add_right _ 5) hl z1 rv rv2 (fun b o e => hk' b o (Heap.lt_size e) (hk b o e)) hS hal' hG hacc
      exact ⟨.ref _, _, J, rfl, q _ as f1 f2 f3 f4 hal'⟩
variable [Tbs]
theorem RpA.of_at {K : Fr} {F : Hp} : ∀ {vs : List V} {ds : List PyData}, vs.length = ds.length → (∀ (j : Nat) v d, vs[j]? = some v → ds[j]? = some d → Rp K F v d) → RpA K F vs ds
  | [], [], _, _ => .nil
  | [], _ :: _, h, _ => by cases h
  | _ :: _, [], h, _ => by cases h
  | v :: vs, d :: ds, h, k => .cons (k 0 v d rfl rfl) (RpA.of_at (Nat.succ.inj h) fun j v' d' e1 e2 => k (j + 1) v' d' e1 e2)
theorem alloc_all {B : Bs} {K : Fr} {σ : L2.St} {ρ : En} : ∀ {ts : List Addr} {ps : List (V × V)} {F H : Hp}, EnvOk B K F H σ ρ → (∀ t, t ∈ ts → H t = none) → ts.Nodup → ts.length = ps.length →
    ∃ F', EnvOk B K F' (zpH H ts ps) σ ρ ∧ Ex F F' ∧ (∀ (j : Nat) (t : Addr), ts[j]? = some t → ∃ p, ps[j]? = some p ∧ F' t = some (.tup [p.1, p.2])) ∧ ∀ a, a ∉ ts → F' a = F a
  | [], ps, F, H, E, _, _, _ => ⟨F, E, Ex.refl F, (fun j t h => by simp at h), fun _ _ => rfl⟩
  | _ :: _, [], _, _, _, _, _, h => by cases h
  | t :: ts, p :: ps, F, H, E, hn, nd, hl => by
    obtain ⟨E1, e1⟩ := E.alloc (o := .tup [p.1, p.2]) (hn t List.mem_cons_self)
    have nd' := List.nodup_cons.mp nd
    obtain ⟨F', E2, e2, g1, g2⟩ := alloc_all (ps := ps) E1 (fun u hu => by rw [upd_ne fun z => nd'.1 (by rw [← z]; exact hu)]; exact hn u (List.mem_cons_of_mem _ hu)) nd'.2 (Nat.succ.inj hl)
    refine ⟨F', E2, e1.trans e2, fun j u hu => ?_, fun a ha => ?_⟩
    · cases j with
      | zero =>
        have e : t = u := Option.some.inj hu
        subst e
        exact ⟨p, rfl, e2 _ _ upd_same⟩
      | succ j => exact g1 j u hu
    · rw [g2 a fun z => ha (List.mem_cons_of_mem _ z), upd_ne fun z => ha (by rw [z]; exact List.mem_cons_self)]
theorem we_listZip {B : Bs} {K : Fr} {ρ : En} {tl : TA} {Q : R → En → Prop} (h : WDs B K tl ρ fun xs ρ1 => ∃ as bs : List PyData, xs = [.list as, .list bs] ∧ as.length = bs.length ∧ Q (.new (List.zipWith (fun x y => PyData.tuple [x, y]) as bs)) ρ1) : WE B K (tListZip K tl) ρ Q := fun F H σ E QQ k =>
  h F H σ E _ fun vs xs F1 H1 ρ1 E1 e1 rvs ⟨as, bs, hx, hl, q⟩ => by
    subst hx
    cases rvs with
    | cons r1 rr =>
      cases rr with
      | cons r2 rr =>
        cases rr
        cases r1 with
        | @lst a us _ ha ra =>
          cases r2 with
          | @lst b ws _ hb rb =>
            refine ⟨a, b, us, ws, rfl, .inl (.inl (E1.fh _ _ ha)), .inl (.inl (E1.fh _ _ hb)), by rw [ra.length, rb.length, hl], fun p ts hp hts hpt nd htl => ?_⟩
            have E2 := E1.allocO (o := .lst (ts.map V.ref)) hp
            have hul : us.length = ws.length := by rw [ra.length, rb.length, hl]
            obtain ⟨F', E3, e3, g1, g2⟩ := alloc_all (ps := us.zip ws) E2 (fun t ht => by rw [upd_ne fun z => hpt (by rw [← z]; exact ht)]; exact hts t ht) nd (by rw [htl, List.length_zip, ← hul, Nat.min_self])
            refine k _ (.new _) F' _ ρ1 E3 (e1.trans e3) (show ROk B K F' _ σ ρ1 _ (.new _) from ⟨p, ts.map V.ref, rfl, (g2 p hpt).trans (E1.fh.free hp), by rw [zpH_off ts _ _ hpt, upd_same], ?_, E1.h0p hp, fun i => E1.fr hp i⟩) q
            refine RpA.of_at (by rw [List.length_map, List.length_zipWith, ← hl, Nat.min_self, htl, ra.length]) fun j v d hv hd => ?_
            rw [List.getElem?_map] at hv
            cases ht : ts[j]? with
            | none => rw [ht] at hv; cases hv
            | some t =>
              rw [ht] at hv
              cases hv
              obtain ⟨⟨x, y⟩, hp2, hF⟩ := g1 j t ht
              obtain ⟨u1, u2⟩ := List.getElem?_zip_eq_some.mp hp2
              obtain ⟨d1, v1, w1⟩ := ra.get u1
              obtain ⟨d2, v2, w2⟩ := rb.get u2
              rw [List.getElem?_zipWith, v1, v2] at hd
              cases hd
              exact .tup (.inl (.inl hF)) (.cons (w1.mono e3) (.cons (w2.mono e3) .nil))
end SV

set_option maxHeartbeats 1000000
/-! None in a list of None and ints; sum of an own list; a comprehension over range(a, b); list(range(a, b)) -/
namespace SV
open PySem PySem.Spec L2 PyProof.Rows
open Evl (Ex)
variable [Tbs]
def optD : Option Int → PyData
  | none => .none
  | some i => .int i
def optV : Option Int → V
  | none => .non
  | some i => .int i
theorem RpA.opts {K : Fr} {F : Hp} : ∀ {os : List (Option Int)} {vs : List V}, RpA K F vs (os.map optD) → vs = os.map optV
  | [], _, r => by cases r; rfl
  | o :: os, _, r => by
    cases r with
    | cons r rr =>
      rw [RpA.opts rr]
      cases o with
      | none => cases r; rfl
      | some i => cases r; rfl
theorem inV_none : ∀ os : List (Option Int), inV .non (os.map optV) = decide (none ∈ os)
  | [] => rfl
  | o :: os => by
    have ih := inV_none os
    unfold inV at ih ⊢
    rw [List.map_cons, List.any_cons, ih]
    cases o with
    | none => simp [optV, eqV]
    | some i => simp [optV, eqV]
theorem flat_opts (os : List (Option Int)) : (os.map optV).all flatV = true := by
  rw [List.all_map]
  exact List.all_eq_true.mpr fun o _ => by cases o <;> rfl
section
variable {B : Bs} {K : Fr} {ρ : En} {ta tb te : TE} {Q : R → En → Prop} {QD : PyData → En → Prop}
theorem wd_inNone {neg : Bool} (h : WD B K tb ρ fun y ρ2 => ∃ os : List (Option Int), (y = .tuple (os.map optD) ∨ y = .list (os.map optD)) ∧ QD (.bool (if neg then !decide (none ∈ os) else decide (none ∈ os))) ρ2) : WD B K (tOp (rIn K neg) (tC .non) tb) ρ QD := fun F H σ E QQ k =>
  h F H σ E _ fun u y F2 H2 ρ2 E2 e2 ru ⟨os, hy, q2⟩ => by
    have fin : ∀ (p : Addr) (vs : List V), u = .ref p → (SqL K H2 p vs ∨ SqT K H2 p vs) → RpA K F2 vs (os.map optD) → rIn K neg .non u H2 QQ := fun p vs hu hs r => by
      have ev := RpA.opts r
      subst ev
      refine ⟨p, _, hu, hs, rfl, flat_opts os, ?_⟩
      rw [inV_none]
      exact k _ _ F2 H2 ρ2 E2 e2 (.bl _) q2
    rcases hy with rfl | rfl
    · cases ru with
      | tup hf r => exact fin _ _ rfl (.inr (E2.fh.stt hf)) r
    · cases ru with
      | lst hf r => exact fin _ _ rfl (.inl (.inl (.inl (E2.fh _ _ hf)))) r
theorem wd_inNoneO {neg : Bool} {j : Nat} {os : List (Option Int)} (hj : ρ[j]? = some (some (.own (os.map optD)))) (q : QD (.bool (if neg then !decide (none ∈ os) else decide (none ∈ os))) ρ) : WD B K (tOp (rIn K neg) (tC .non) (tVar j)) ρ QD := fun F H σ E QQ k => by
  obtain ⟨a, vs, e, _, k2, k3⟩ := E.own_at hj
  have ev := RpA.opts k3
  subst ev
  refine ⟨.ref a, e, a, _, rfl, .inl (.inl (.inl k2)), rfl, flat_opts os, ?_⟩
  rw [inV_none]
  exact k _ _ F H ρ E (Ex.refl F) (.bl _) q
theorem wd_sumO {j : Nat} {ns : List Int} (hj : ρ[j]? = some (some (.own (ns.map .int)))) (q : QD (.int ns.sum) ρ) : WD B K (tCB (rSum K) (tCons (tVar j) tNil)) ρ QD := fun F H σ E QQ k => by
  obtain ⟨a, vs, e, _, k2, k3⟩ := E.own_at hj
  have ev := k3.ints
  subst ev
  exact ⟨.ref a, e, a, ns, rfl, .inl (.inl k2), k _ _ F H ρ E (Ex.refl F) (.int _) q⟩
theorem we_lc2 {g : TG} {tt : TT} {vs : List Nat} (P : Int → Option PyData → Prop) (gv : GV g vs) (h : WD B K ta ρ fun x ρ1 => ∃ m : Int, x = .int m ∧ WD B K tb ρ1 fun y ρ2 => ∃ n : Int, y = .int n ∧ (-1000000 ≤ m ∧ m ≤ 1000000 ∧ -1000000 ≤ n ∧ n ≤ 1000000 ∧ n - m ≤ 1000000) ∧ Comp K g tt te vs PyData.int (ixs m (n - m).toNat) ρ2 P ∧ ∀ ys, Sel P (ixs m (n - m).toNat) ys → Q (.new ys) ρ2) :
    WE B K (tLc (iRng2 (tCons ta (tCons tb tNil))) g tt te vs) ρ Q := fun F H σ E QQ k =>
  h F H σ E _ fun v x F1 H1 ρ1 E1 e1 rv ⟨m, hx, q⟩ => q F1 H1 σ E1 _ fun u y F2 H2 ρ2 E2 e2 ru ⟨n, hy, hb, hc, q2⟩ => by
    subst hx hy
    cases rv
    cases ru
    exact ⟨m, n, rfl, ⟨by omega, by omega, by omega, by omega⟩, lc_itr gv E2 (e1.trans e2) (by show (n - m).toNat ≤ 1000000; omega) hc fun v F2 H2 ys E3 e3 rv2 sel => k v (.new ys) F2 H2 ρ2 E3 e3 rv2 (q2 ys sel)⟩
theorem rgV_ixs2 {m n : Int} : rgV m n = (ixs m (n - m).toNat).map V.int := by
  unfold ixs rgV
  rw [List.map_map]
  rfl
theorem we_listRg2 (h : WD B K ta ρ fun x ρ1 => ∃ m : Int, x = .int m ∧ WD B K tb ρ1 fun y ρ2 => ∃ n : Int, y = .int n ∧ (-1000000 ≤ m ∧ m ≤ 1000000 ∧ -1000000 ≤ n ∧ n ≤ 1000000 ∧ n - m ≤ 1000000) ∧ Q (.new ((ixs m (n - m).toNat).map .int)) ρ2) : WE B K (tLstRg (tRg2 ta tb)) ρ Q := fun F H σ E QQ k =>
  h F H σ E _ fun v x F1 H1 ρ1 E1 e1 rv ⟨m, hx, q⟩ => q F1 H1 σ E1 _ fun u y F2 H2 ρ2 E2 e2 ru ⟨n, hy, hb, q2⟩ => by
    subst hx hy
    cases rv
    cases ru
    refine ⟨m, n, rfl, rfl, ⟨by omega, by omega, by omega, by omega, by omega⟩, fun p hp => ?_⟩
    rw [rgV_ixs2]
    obtain ⟨E3, r3⟩ := new_ok E2 hp (RpA.of_ints (K := K) (F := F2) (ixs m (n - m).toNat))
    exact k _ _ F2 _ ρ2 E3 (e1.trans e2) r3 q2
end
end SV

set_option maxHeartbeats 1000000
/-! [d[k] for k in range(n)] of an own dict d -/
namespace SV
open PySem PySem.Spec L2 PyProof.Rows
open Evl (Ex)
variable [Tbs]
/-- a dict stands at d, unlocked -/
def DAtO (K : Fr) (d : Addr) (ks : List Key) (xs : List PyData) (B : Bs) : Prop := ks.length = xs.length ∧ ∃ vs, B.H0 d = some (.dK (ks.zip vs)) ∧ RpA K B.F0 vs xs
section
variable {B : Bs} {K : Fr} {ρ : En} {te : TE} {Q : R → En → Prop} {QD : PyData → En → Prop}
theorem wd_dgetG {j : Nat} {d : Addr} {ks : List Key} {xs : List PyData} {ty : TE} (hpin : B.pin.map Prod.fst = none) (hD : DAtO K d ks xs B) (hj : ρ[j]? = some (some (.raw (.ref d)))) (h : WD B K ty ρ fun y ρ1 => ∃ k x, y = keyD k ∧ SV.getK ks xs k = some x ∧ QD x ρ1) : WD B K (tDGet (tVar j) ty) ρ QD := fun F H σ E QQ kk => by
  obtain ⟨v, e, s⟩ := E.sl j _ hj
  cases (show v = .ref d from s)
  refine ⟨.ref d, e, h F H σ E _ fun v y F1 H1 ρ1 E1 e1 rv ⟨k, x, hy, hx, q⟩ => ?_⟩
  subst hy
  rw [rp_key rv]
  obtain ⟨hl, vs, hd, ra⟩ := hD
  have np : B.pin = none := by
    cases e : B.pin with
    | none => rfl
    | some p => rw [e] at hpin; cases hpin
  have hd1 := E1.st.h0 d _ hd (fun i z => by rw [np] at z; cases z) (fun _ z => by cases z)
  have ra1 := ra.mono E1.st.f0
  obtain ⟨w, hw, rw'⟩ := (ra1.getK (ks := ks) (k := k)).1 x hx
  exact ⟨d, w, rfl, .inl ⟨_, k, .inl hd1, rfl, by rw [valV_get, hw]⟩, kk _ _ F1 H1 ρ1 E1 e1 rw' q⟩
theorem we_lc1D {j : Nat} {tn : TE} {g : TG} {tt : TT} {vs : List Nat} (P : Int → Option PyData → Prop) (gv : GV g vs)
    (h : WD B K tn ρ fun x ρ1 => ∃ (n : Int) (ks : List Key) (xs : List PyData), x = .int n ∧ (-1000000 ≤ n ∧ n ≤ 1000000) ∧ ρ1[j]? = some (some (.ownD ks xs)) ∧ NP B j ∧ (∀ d, CompB (DAtO K d ks xs) K g tt te vs PyData.int (ixs 0 n.toNat) (ρ1.set j (some (.raw (.ref d)))) P) ∧ ∀ ys, Sel P (ixs 0 n.toNat) ys → Q (.new ys) ρ1) :
    WE B K (tLc (iRng1 (tCons tn tNil)) g tt te vs) ρ Q := fun F H σ E QQ kk =>
  h F H σ E _ fun v x F1 H1 ρ1 E1 e1 rv ⟨n, ks, xs, hx, hb, hj, np, hc, q⟩ => by
    subst hx
    cases rv
    obtain ⟨v, e, E2, ⟨d, ws, rfl, fd, hd, hkl, ra⟩, hf⟩ := E1.giveL hj np
    obtain ⟨h0d, hsd⟩ := hf d rfl
    have hl : j < σ.length := (List.getElem?_eq_some_iff.mp e).1
    have eσ : σ.set j (some (.ref d)) = σ := by
      refine List.ext_getElem? fun i => ?_
      by_cases c : i = j
      · subst c; rw [List.getElem?_set_self hl, e]
      · rw [List.getElem?_set_ne (Ne.symm c)]
    have E3 := E2.setD (i := j) (l := .raw (.ref d)) (v := .ref d) rfl rfl np
    rw [eσ, List.set_set] at E3
    have fr3 : Free B σ (ρ1.set j (some (.raw (.ref d)))) [d] := fun a ha => by
      rw [List.mem_singleton.mp ha]
      refine ⟨h0d, fun i ⟨m, w, q1, q2, q3⟩ => ?_⟩
      rcases set_cases q1 with ⟨rfl, _, ee⟩ | ⟨nn, ee⟩
      · cases ee; exact q3
      · refine hsd i ⟨m, w, ?_, q2, q3⟩
        rw [List.getElem?_set_ne (Ne.symm nn)]
        exact ee
    have lv : ∀ a, a ∈ [d] → F1 a = none ∧ ∃ o, H1 a = some o ∧ ∀ ps, o ≠ .tbl ps := fun a ha => by rw [List.mem_singleton.mp ha]; exact ⟨fd, _, hd, fun _ z => by cases z⟩
    obtain ⟨g1, g2⟩ := E3.guard fr3 lv
    have hdl : ∀ F' H', EnvOk ⟨F1, gdH B H1 [d], B.pin⟩ K F' H' σ (ρ1.set j (some (.raw (.ref d)))) → H' d = some (.dK (ks.zip ws)) := fun F' H' E' => by
      obtain ⟨_, keep, _⟩ := g2 F' H' _ E'
      rw [(keep d List.mem_cons_self).2, hd]
    refine ⟨n, rfl, by omega, by omega, lc_genB (J := Itr 0 n.toNat) (f := PyData.int) (as := ixs 0 n.toNat) (P := P) (DAtO K d ks xs) gv g1 e1 (by rw [ixs_len]; show n.toNat ≤ 1000000; omega) (fun F' H' E' e' => ⟨hkl, ws, ntb_at (hdl F' H' E') (fun _ z => by cases z), ra.mono e'⟩) (fun i b F' H' hb2 E' => ?_) (fun i F' H' hi E' => ?_) (fun i b F' H' x H2 hb2 E' e' y => ?_) (hc d) fun v F' H' ys E' e' rv sel => ?_⟩
    · have := (List.getElem?_eq_some_iff.mp hb2).1
      rw [ixs_len] at this
      exact this
    · rw [ixs_len] at hi
      exact hi
    · obtain ⟨rfl, rfl⟩ := y
      rw [ixs_at] at hb2
      split at hb2
      · cases hb2
        exact ⟨rfl, Rp.int _⟩
      · cases hb2
    · obtain ⟨E4, keep, fr4⟩ := g2 F' H' _ E'
      have fd4 := (keep d List.mem_cons_self).1
      have e1' : Ex F1 F' := E'.st.f0
      have rvd : ROk B K F' H' σ (ρ1.set j (some (.raw (.ref d)))) (.ref d) (.newD ks xs) := ⟨d, ws, rfl, fd4, hdl F' H' E', hkl, ra.mono e1', h0d, (fr4 d List.mem_cons_self).2⟩
      have E6 := E4.setND (i := j) rvd np
      have hjl : j < ρ1.length := (List.getElem?_eq_some_iff.mp hj).1
      have eρ : ρ1.set j (some (.ownD ks xs)) = ρ1 := by
        refine List.ext_getElem? fun i => ?_
        by_cases c : i = j
        · subst c; rw [List.getElem?_set_self hjl, hj]
        · rw [List.getElem?_set_ne (Ne.symm c)]
      rw [eσ, List.set_set, eρ] at E6
      refine kk v (.new ys) F' _ ρ1 E6 e' ?_ (q ys sel)
      obtain ⟨a, us, ev, f1, f2, f3, f4, f5⟩ := rv
      have hne : a ≠ d := fun z => by
        rw [z, hdl F' H' E'] at f2
        cases f2
      refine ⟨a, us, ev, f1, f2, f3, ?_, fun i ⟨m, w, q1, q2, q3⟩ => ?_⟩
      · have f4' : gdH B H1 [d] a = none := f4
        unfold gdH at f4'
        rw [if_neg (fun z => hne (List.mem_singleton.mp z))] at f4'
        exact f4'
      · by_cases c : i = j
        · subst c
          rw [hj] at q1
          cases q1
          rw [e] at q2
          cases q2
          cases (show V.ref d = V.ref a from q3)
          exact hne rfl
        · exact f5 i ⟨m, w, by rw [List.getElem?_set_ne (Ne.symm c)]; exact q1, q2, q3⟩
end
end SV

/-! SVzl: t[i] of a tuple that a call has made, whose part is an own list. -/
namespace SV
open PySem PySem.Spec L2
open Evl (Ex)
section
variable [Tbs] {B : Bs} {K : Fr} {ρ : En} {te : TE} {Q : R → En → Prop}
theorem atI_memX {α : Type} {xs : List α} {i : Int} {x : α} (h : L2.atI xs i = some x) : x ∈ xs := by
  unfold L2.atI at h
  cases e : ixN xs.length i with
  | none => rw [e] at h; cases h
  | some j =>
    rw [e] at h
    exact List.mem_of_getElem? h
theorem we_ixOwn {i : Int} (h : WE B K te ρ fun r ρ1 => ∃ p ts a, ∃ xs : List PyData, r = .deep (.tup p ts) ∧ L2.atI ts i = some (.lst a (xs.map .d)) ∧ Q (.new xs) ρ1) : WE B K (tOp (rIx K) te (tC (.int i))) ρ Q := fun F H σ E QQ k =>
  h F H σ E _ fun v r F1 H1 ρ1 E1 e1 rv ⟨p, ts, a, xs, hr, hat, q⟩ => by
    subst hr
    obtain ⟨o, nd, fr⟩ := rv
    cases o with
    | @tup _ vs _ k1 k2 k3 =>
      obtain ⟨w, hw, ow⟩ := k3.atI hat
      have hm := fp_sub (atI_memX hat) (a := a) List.mem_cons_self
      have hf := fr a (List.mem_cons_of_mem _ hm)
      cases ow with
      | lst h1 h2 h3 =>
        exact .inr (.inl ⟨p, vs, i, .ref a, rfl, rfl, .inl (.inl k2), hw, k (.ref a) (.new xs) F1 H1 ρ1 E1 e1 ⟨a, _, rfl, h1, h2, h3.to_rp, hf.1, hf.2⟩ q⟩)
end
end SV

set_option maxHeartbeats 1000000
/-! SVzm: a comprehension over a tuple whose element changes the own list of slot j. -/
namespace SV
open PySem PySem.Spec L2 PyProof.Rows
open Evl (Ex)
variable [Tbs]
section
variable {B : Bs} {K : Fr} {ρ : En} {te : TE} {Q : R → En → Prop}
theorem EnvOk.innerW {F H : Hp} {σ : L2.St} (E : EnvOk B K F H σ ρ) {j : Nat} {a : Addr} {zs : List PyData} (hj : ρ[j]? = some (some (.own zs))) (ha : σ[j]? = some (some (.ref a))) (vs : List Nat) (hv : j ∉ vs) :
    EnvOk ⟨F, ntb H, some (j, a)⟩ K F H (wipe σ vs) (wipeE ((hide ρ).set j (some (.own zs))) vs) := by
  have hi : j < ρ.length := (List.getElem?_eq_some_iff.mp hj).1
  have hi2 : j < (hide ρ).length := by rw [hide_len]; exact hi
  have only : ∀ i b, SFp σ ((hide ρ).set j (some (.own zs))) i b → i = j ∧ b = a := fun i b ⟨m, w, e1, e2, e3⟩ => by
    rcases set_cases e1 with ⟨rfl, _, e⟩ | ⟨n, e⟩
    · cases e
      rw [ha] at e2
      cases e2
      cases (show V.ref a = V.ref b from e3)
      exact ⟨rfl, rfl⟩
    · exact absurd e3 (LFp.no (hide_at e).2)
  have base : EnvOk ⟨F, ntb H, some (j, a)⟩ K F H σ ((hide ρ).set j (some (.own zs))) := by
    refine ⟨⟨Ex.refl F, E.fh, fun a o e _ _ => (ntb_of e).1, fun a h => h, fun a h _ => h, E.st.tf, E.st.tab⟩, by rw [List.length_set, hide_len]; exact E.len, fun i l e => ?_, fun i k b e1 e2 => by rw [(only i b e1).1, (only k b e2).1], fun i b e => ?_, fun i b e => ?_⟩
    · rcases set_cases e with ⟨rfl, _, e'⟩ | ⟨n, e'⟩
      · cases e'; exact E.sl i _ hj
      · exact E.sl i l (hide_at e').1
    · obtain ⟨rfl, rfl⟩ := only i b e
      exact .inr rfl
    · cases e
      obtain ⟨a', ws, q1, q2, q3, q4⟩ := E.own_at hj
      rw [ha] at q1
      cases q1
      exact ⟨ha, .inl ⟨⟨zs, List.getElem?_set_self hi2⟩, ws, ntb_at q3 (nt_lst _).1⟩⟩
  induction vs with
  | nil => exact base
  | cons v vs ih =>
    refine (ih fun h => hv (List.mem_cons_of_mem _ h)).forget fun b e => ?_
    have e2 := Option.some.inj e
    injection e2 with e3 _
    exact hv (e3 ▸ List.mem_cons_self)
/-- what it wants: the items as, the list zs, what is told ys -/
def CompM {α : Type} (K : Fr) (g : TG) (te : TE) (vs : List Nat) (f : α → PyData) (as : List α) (ρ : En) (j : Nat) (I : List α → List PyData → List PyData → Prop) : Prop :=
  ∀ pre a post zs ys, as = pre ++ a :: post → I pre ys zs → ∀ B : Bs, B.pin.map Prod.fst = some j → WG B K g (f a) (wipeE ((hide ρ).set j (some (.own zs))) vs) fun ρ2 => WD B K te ρ2 fun y ρ3 => ∃ zs', ρ3[j]? = some (some (.own zs')) ∧ I (pre ++ [a]) (ys ++ [y]) zs'
theorem lc_genM {α : Type} {J : It} {g : TG} {vs : List Nat} {f : α → PyData} {as : List α} {I : List α → List PyData → List PyData → Prop} {F0 F1 H1 : Hp} {σ : L2.St} {ρ1 : En} {QQ : VK} {j : Nat} {zs0 : List PyData} (hj : ρ1[j]? = some (some (.own zs0))) (hv : j ∉ vs) (gv : GV g vs) (E1 : EnvOk B K F1 H1 σ ρ1) (e1 : Ex F0 F1) (hz : as.length ≤ lim)
    (il : ∀ pre ys zs, I pre ys zs → ys.length = pre.length) (i0 : I [] [] zs0)
    (go : ∀ (i : Nat) (a : α) F H, as[i]? = some a → Ex F1 F → Ex F H → J.go i H)
    (stop : ∀ (i : Nat) F H, as.length ≤ i → Ex F1 F → Ex F H → J.stop i H)
    (yld : ∀ (i : Nat) (a : α) B F H σ ρ x H', as[i]? = some a → EnvOk B K F H σ ρ → Ex F1 F → J.yld i H x H' → ∃ F', EnvOk B K F' H' σ ρ ∧ Ex F F' ∧ Rp K F' x (f a))
    (h : CompM K g te vs f as ρ1 j I) (k : ∀ v F' H' ys zs, EnvOk B K F' H' σ (ρ1.set j (some (.own zs))) → Ex F0 F' → ROk B K F' H' σ (ρ1.set j (some (.own zs))) v (.new ys) → I as ys zs → QQ v H') :
    ∀ D, H1 D = none → ∃ W : Nat → Nat → Hp → Prop, (∃ m, W 0 m (upd H1 D (.lst []))) ∧ ∀ i m H, W i m H →
      (J.stop i H ∧ QQ (.ref D) H) ∨ (J.go i H ∧ ∃ Nx : Hp → Prop, (∀ H', Nx H' → ∃ m', m' < m ∧ W (i + 1) m' H') ∧ ∀ x H', J.yld i H x H' → g x (wipe σ vs) H' fun σ2 H2 => wipe σ2 vs = wipe σ vs ∧ tYes σ2 H2 fun b H3 =>
        if b = true then te σ2 H3 fun y H4 => ∃ acc, H4 D = some (.lst acc) ∧ acc.length < sizeLine ∧ Nx (upd H4 D (.lst (acc ++ [y]))) else Nx H3) := by
  intro D hD
  obtain ⟨a, cs, ha, fa, hca, _⟩ := E1.own_at hj
  have hDa : D ≠ a := fun z => by rw [z, hca] at hD; cases hD
  have hjl : j < ρ1.length := (List.getElem?_eq_some_iff.mp hj).1
  have hs : ∀ zs i, ¬ SFp σ (ρ1.set j (some (.own zs))) i D := fun zs i ⟨m, w, q1, q2, q3⟩ => by
    rcases set_cases q1 with ⟨rfl, _, e⟩ | ⟨n, e⟩
    · cases e
      rw [ha] at q2
      cases q2
      cases (show V.ref a = V.ref D from q3)
      exact hDa rfl
    · exact E1.fr hD i ⟨m, w, e, q2, q3⟩
  have hset0 : ρ1.set j (some (.own zs0)) = ρ1 := by
    refine List.ext_getElem? fun i => ?_
    by_cases c : j = i
    · subst c; rw [List.getElem?_set_self hjl, hj]
    · rw [List.getElem?_set_ne c]
  have hss : ∀ zs zs', (ρ1.set j (some (L.own zs))).set j (some (L.own zs')) = ρ1.set j (some (L.own zs')) := fun zs zs' => List.set_set ..
  have hgj : ∀ zs, (ρ1.set j (some (L.own zs)))[j]? = some (some (L.own zs)) := fun zs => List.getElem?_set_self hjl
  have hhide : ∀ zs zs' : List PyData, (hide (ρ1.set j (some (L.own zs)))).set j (some (L.own zs')) = (hide ρ1).set j (some (L.own zs')) := fun zs zs' => by
    unfold hide
    rw [List.map_set, List.set_set]
  have h0 : B.H0 D = none := E1.h0p hD
  refine ⟨fun i m H => m = as.length - i ∧ i ≤ as.length ∧ ∃ F acc ys zs, EnvOk B K F H σ (ρ1.set j (some (.own zs))) ∧ Ex F1 F ∧ F D = none ∧ H D = some (.lst acc) ∧ RpA K F acc ys ∧ I (as.take i) ys zs,
    ⟨as.length, (Nat.sub_zero _).symm, Nat.zero_le _, F1, [], [], zs0, by rw [hset0]; exact E1.allocO hD, Ex.refl F1, E1.fh.free hD, upd_same, .nil, i0⟩, ?_⟩
  rintro i m H2 ⟨rfl, hi, F2, acc, ys, zs, E2, e2, fD, hD2, ra, sel⟩
  by_cases hlt : i < as.length
  · have ea : as[i]? = some as[i] := List.getElem?_eq_getElem hlt
    refine .inr ⟨go i _ F2 H2 ea e2 E2.fh, fun H' => ∃ F acc ys zs, EnvOk B K F H' σ (ρ1.set j (some (.own zs))) ∧ Ex F1 F ∧ F D = none ∧ H' D = some (.lst acc) ∧ RpA K F acc ys ∧ I (as.take (i + 1)) ys zs, fun H' p' => ⟨as.length - (i + 1), by omega, rfl, hlt, p'⟩, fun x H' y => ?_⟩
    obtain ⟨F', E', e', rx⟩ := yld i _ _ F2 H2 _ _ x H' ea (E2.innerW (hgj zs) ha vs hv) e2 y
    rw [hhide] at E'
    have hspl : as = as.take i ++ as[i] :: as.drop (i + 1) := split_at ea
    refine gv.stay (h (as.take i) as[i] (as.drop (i + 1)) zs ys hspl sel _ rfl F' H' _ x E' rx (fun σ2 H3 => te σ2 H3 fun y H5 => ∃ acc, H5 D = some (.lst acc) ∧ acc.length < sizeLine ∧ ∃ F acc' ys zs, EnvOk B K F (upd H5 D (.lst (acc ++ [y]))) σ (ρ1.set j (some (.own zs))) ∧ Ex F1 F ∧ F D = none ∧ (upd H5 D (.lst (acc ++ [y]))) D = some (.lst acc') ∧ RpA K F acc' ys ∧ I (as.take (i + 1)) ys zs) fun F3 H3 σ3 ρ3 E3 e3 q3 => ?_) fun σ3 H3 hl hk q => ⟨wipe_eq (by rw [hl, wipe_length]) hk, ?_⟩
    · refine q3 F3 H3 σ3 E3 _ fun v y F5 H5 ρ5 E5 e5 rv ⟨zs', hz', q5⟩ => ?_
      have st := E5.st
      obtain ⟨pj, _⟩ := E5.pin j a rfl
      obtain ⟨v', ev, s5⟩ := E5.sl j _ hz'
      rw [pj] at ev
      cases ev
      have E6 := E2.stepW (l' := .own zs') (hgj zs) ha (fun b => ⟨fun z => by cases (show V.ref a = V.ref b from z); rfl, fun z => by subst z; rfl⟩) st s5 (fun b z => by cases (show V.ref a = V.ref b from z); rfl) (.inl ⟨_, _, rfl, rfl⟩)
      rw [hss] at E6
      have hD5 := st.h0 D _ (ntb_at hD2 (nt_lst _).1) (fun i z => hDa (Prod.mk.inj (Option.some.inj z)).2.symm) (nt_lst _).1
      have fD5 := st.nf D fD (ntb_live hD2 (nt_lst _).1)
      refine ⟨acc, hD5, ?_, F5, acc ++ [v], ys ++ [y], zs', E6.poke fD5 h0 (hs zs') (fun u e => by rw [hD5] at e; cases e; exact nt_lst _), e2.trans st.f0, fD5, upd_same, (ra.mono st.f0).append (.cons rv .nil), ?_⟩
      · have l1 := il _ _ _ sel
        rw [List.length_take] at l1
        rw [ra.length]
        exact lim_lt (by omega)
      · rw [take_snoc ea]
        exact q5
    · show tYes σ3 H3 _
      exact q
  · have e : i = as.length := by omega
    subst e
    rw [List.take_length] at sel
    exact .inl ⟨stop _ F2 H2 (Nat.le_refl _) e2 E2.fh, k _ F2 H2 ys zs E2 (e1.trans e2) ⟨D, acc, rfl, fD, hD2, ra, h0, hs zs⟩ sel⟩
theorem we_lcTM {α : Type} {tl : TE} {g : TG} {vs : List Nat} (f : α → PyData) (j : Nat) (I : List α → List PyData → List PyData → Prop) (hv : j ∉ vs) (gv : GV g vs) (il : ∀ pre ys zs, I pre ys zs → ys.length = pre.length)
    (h : WD B K tl ρ fun x ρ1 => ∃ (as : List α) (zs0 : List PyData), x = .tuple (as.map f) ∧ as.length ≤ lim ∧ ρ1[j]? = some (some (.own zs0)) ∧ I [] [] zs0 ∧ CompM K g te vs f as ρ1 j I ∧ ∀ ys zs, I as ys zs → Q (.new ys) (ρ1.set j (some (.own zs)))) :
    WE B K (tLc (iTup K tl) g tYes te vs) ρ Q := fun F H σ E QQ k =>
  h F H σ E _ fun v x F1 H1 ρ1 E1 e1 rv ⟨as, zs0, hx, hz, hj, i0, hc, q⟩ => by
    subst hx
    cases rv with
    | @tup a ws xs ha ra =>
    have hl : ws.length = as.length := by rw [ra.length, List.length_map]
    refine ⟨a, rfl, ⟨ws, E1.fh.stt ha⟩, lc_genM (J := Itt K a) hj hv gv E1 e1 hz il i0 (fun i b F2 H2 ea e2 fh => ?_) (fun i F2 H2 hi e2 fh => ⟨ws, fh.stt (e2.stt ha), by omega⟩) (fun i b B2 F2 H2 σ2 ρ2 y H' ea E2 e2 hy => ?_) hc fun v F2 H2 ys zs E2 e2 rv2 sel => k v (.new ys) F2 H2 _ E2 e2 rv2 (q ys zs sel)⟩
    · obtain ⟨w, hw, _⟩ := at_map' ra ea
      exact ⟨ws, w, fh.stt (e2.stt ha), hw⟩
    · obtain ⟨rfl, hy⟩ := hy
      exact ⟨F2, E2, Ex.refl F2, Rp.mono e2 (at_map ra ea (hy ws (E2.fh.stt (e2.stt ha))))⟩
end
end SV

set_option maxHeartbeats 1000000
/-! SVzn: list * int of any sign; an own thing becomes data. -/
namespace SV
open PySem PySem.Spec L2 PyProof.Rows
open Evl (Ex)
variable [Tbs]
section
variable {B : Bs} {K : Fr} {ρ : En} {ta tb : TE} {Q : R → En → Prop}
theorem we_repZ (h : WD B K ta ρ fun x ρ1 => ∃ xs, x = .list xs ∧ WD B K tb ρ1 fun y ρ2 => ∃ j, y = .int j ∧ (-1000000 ≤ j ∧ j ≤ 1000000 ∧ xs.length * j.toNat ≤ lim) ∧ Q (.new (List.replicate j.toNat xs).flatten) ρ2) : WE B K (tOp rRep ta tb) ρ Q := fun F H σ E QQ k =>
  h F H σ E _ fun v x F1 H1 ρ1 E1 e1 rv ⟨xs, hx, q⟩ => q F1 H1 σ E1 _ fun u y F2 H2 ρ2 E2 e2 ru ⟨j, hy, ⟨j0, j1, hl⟩, q2⟩ => by
    subst hx hy
    have rv' := Rp.mono e2 rv
    cases ru
    cases rv' with
    | @lst a vs xs ha ra =>
    refine ⟨a, j, vs, rfl, rfl, E2.fh _ _ ha, by omega, by omega, by rw [ra.length]; exact lim_le hl, fun p hp => ?_⟩
    obtain ⟨E3, r3⟩ := new_ok E2 hp (ra.rep _)
    exact k _ _ F2 _ ρ2 E3 (e1.trans e2) r3 q2
theorem ws_toD {t : TS} {Z : Zs} {j : Nat} {u : OT} (hj : ρ[j]? = some (some (.deep u))) (np : NP B j) (hd : u.isD = true) (h : WS B K t (ρ.set j (some (.d u.data))) Z) : WS B K t ρ Z := fun F H σ E D ok => by
  obtain ⟨v, e, E', r⟩ := E.giveT hj np
  obtain ⟨F', E2, e2, r2⟩ := E'.asD (r := .deep u) (x := u.data) r (by unfold R.toD; simp only [hd, if_true])
  have E3 := E2.setD (i := j) (l := .d u.data) r2 rfl np
  have hl : j < σ.length := (List.getElem?_eq_some_iff.mp e).1
  have e3 : σ.set j (some v) = σ := by
    refine List.ext_getElem? fun i => ?_
    by_cases c : i = j
    · subst c; rw [List.getElem?_set_self hl, e]
    · rw [List.getElem?_set_ne (Ne.symm c)]
  rw [e3, List.set_set] at E3
  exact h F' H σ E3 D (ok.up e2)
end
end SV

set_option maxHeartbeats 4000000
set_option hygiene false
local macro_rules | `(tactic| walk_at "okd") => `(tactic| with_reducible first | exact SV.OkD.int _ | exact SV.OkD.bool _ | exact SV.OkD.none | exact SV.OkD.nil | assumption | exact SV.OkD.ints _ | exact SV.OkD.strs (by assumption))
local macro_rules | `(tactic| walk_at "np") => `(tactic| first | exact SV.np_of hB' (by decide) | exact SV.np_of hB (by decide) | exact SV.np_of (by assumption) (by decide))
local macro_rules | `(tactic| walk_at "nob") => `(tactic| first | with_reducible assumption | with_reducible exact SV.noB_strs _ | with_reducible exact SV.noB_ints _ | rfl)
local macro_rules | `(tactic| walk_at "gWS") => `(tactic| first
  | ((with_reducible refine' SV.ws_retO ?h ?h2 ?_); (case h => exact rfl); (case h2 => walk_at "np"))
  | ((with_reducible refine' SV.ws_retT ?h ?h2 ?_); (case h => exact rfl); (case h2 => walk_at "np"))
  | ((with_reducible refine' SV.ws_retD ?h ?h2 ?_); (case h => exact rfl); (case h2 => walk_at "np"))
  | (with_reducible refine SV.ws_seq ?_)
  | (with_reducible refine SV.ws_for1 ?_)
  | (with_reducible refine SV.ws_for2 ?_)
  | (with_reducible refine SV.ws_ret ?_)
  | (with_reducible refine SV.ws_retN ?_)
  | (with_reducible refine SV.ws_drop ?_)
  | (with_reducible refine SV.ws_next ?_)
  | (with_reducible refine SV.ws_cont ?_)
  | (with_reducible refine SV.ws_brk ?_)
  | ((with_reducible refine' SV.ws_asgO ?h ?_); (case h => walk_at "np"))
  | ((with_reducible refine' SV.ws_asg ?h ?_); (case h => walk_at "np"))
  | ((with_reducible refine' SV.ws_aug ?h ?h2 ?_); (case h => walk_at "np"); (case h2 => exact rfl))
  | (with_reducible refine SV.ws_setItem ?_)
  | (with_reducible refine SV.ws_asgG ?_)
  | (with_reducible refine SV.ws_asgGX ?_)
  | (with_reducible refine SV.ws_dputO ?_)
  | fail)
local macro_rules | `(tactic| walk_at "gDtOp") => `(tactic| first
  | ((with_reducible refine' SV.wd_ixS ?h ?_); (case h => exact rfl))
  | ((with_reducible refine' SV.wd_ixO ?h ?_); (case h => exact rfl))
  | ((with_reducible refine' SV.wd_ixT ?h ?_); (case h => exact rfl))
  | (with_reducible refine SV.wd_ix ?_)
  | (with_reducible refine SV.wd_e (SV.we_plus ?_))
  | (with_reducible refine SV.wd_catA ?_)
  | (with_reducible refine SV.wd_inStrs ?_)
  | (with_reducible refine SV.wd_isB ?_)
  | (with_reducible refine SV.wd_notB ?_)
  | (with_reducible refine SV.wd_sub ?_)
  | (with_reducible refine SV.wd_modP ?_)
  | (with_reducible refine SV.wd_divP ?_)
  | (with_reducible refine SV.wd_pow ?_)
  | (with_reducible refine SV.wd_mulP ?_)
  | (with_reducible refine SV.wd_srep ?_)
  | (with_reducible refine SV.wd_lt ?_)
  | ((with_reducible refine' SV.wd_eqE ?h ?_); (case h => exact rfl))
  | ((with_reducible refine' SV.wd_neE ?h ?_); (case h => exact rfl))
  | ((with_reducible refine' SV.wd_eqO ?h ?_); (case h => exact rfl))
  | ((with_reducible refine' SV.wd_neO ?h ?_); (case h => exact rfl))
  | ((with_reducible refine' SV.wd_eqT ?h ?_); (case h => exact rfl))
  | ((with_reducible refine' SV.wd_neT ?h ?_); (case h => exact rfl))
  | ((with_reducible refine' SV.wd_neSlT ?h ?_); (case h => exact rfl))
  | ((with_reducible refine' SV.wd_eqSlT ?h ?_); (case h => exact rfl))
  | (with_reducible refine SV.wd_eqD ?_)
  | (with_reducible refine SV.wd_neD ?_)
  | (with_reducible refine SV.wd_niSign ?_)
  | (with_reducible refine SV.wd_inSign ?_)
  | (with_reducible refine SV.wd_e (SV.we_rep ?_))
  | fail)
local macro_rules | `(tactic| walk_at "gDtCB") => `(tactic| first
  | ((with_reducible refine' SV.wd_lenDO ?h ?_); (case h => exact rfl))
  | ((with_reducible refine' SV.wd_lenS ?h ?_); (case h => exact rfl))
  | ((with_reducible refine' SV.wd_lenO ?h ?_); (case h => exact rfl))
  | ((with_reducible refine' SV.wd_lenT ?h ?_); (case h => exact rfl))
  | (with_reducible refine SV.wd_len ?_)
  | (with_reducible refine SV.wd_int1 ?_)
  | (with_reducible refine SV.wd_strI ?_)
  | (with_reducible refine SV.wd_max2 ?_)
  | (with_reducible refine SV.wd_min2 ?_)
  | ((with_reducible refine' SV.wd_isiT ?h ?_); (case h => exact rfl))
  | ((with_reducible refine' SV.wd_isiO ?h ?_); (case h => exact rfl))
  | (with_reducible refine SV.wd_isi_int ?_)
  | (with_reducible refine SV.wd_isi_bool ?_)
  | (with_reducible refine SV.wd_isi_str ?_)
  | (with_reducible refine SV.wd_isi_tuple ?_)
  | (with_reducible refine SV.wd_isi_list ?_)
  | (with_reducible refine SV.wd_isi_dict ?_)
  | ((with_reducible refine' SV.wd_isx ?h ?C ?k ?e ?_); (case h => exact rfl); (case C => assumption); (case k => (first | exact .ty _ | exact .own _)); (case e => assumption))
  | ((with_reducible refine' SV.wd_isxT ?h ?t ?l ?C ?e ?_); (case h => exact rfl); (case t => (first | exact (.cons (.cons (.cons (.cons (.cons (.cons (.cons (.cons .nil)))))))) | exact (.cons (.cons (.cons (.cons (.cons (.cons (.cons .nil))))))) | exact (.cons (.cons (.cons (.cons .nil)))))); (case l => exact Nat.le_of_ble_eq_true rfl); (case C => assumption); (case e => assumption))
  | (with_reducible refine SV.wd_e (SV.we_sortTI ?_))
  | (with_reducible refine SV.wd_e (SV.we_sortI ?_))
  | (with_reducible refine SV.wd_e (SV.we_list ?_))
  | ((with_reducible refine' SV.wd_e (SV.we_listO ?h ?_)); (case h => exact rfl))
  | ((with_reducible refine' SV.wd_tupOfO ?h ?_); (case h => exact rfl))
  | (with_reducible refine SV.wd_tupOf ?_)
  | ((with_reducible refine' SV.wd_lenDO ?h ?_); (case h => exact rfl))
  | fail)
local macro_rules | `(tactic| walk_at "gDtVar") => `(tactic| first
  | ((with_reducible refine' SV.wd_var ?h ?_); (case h => exact rfl))
  | ((with_reducible refine' SV.wd_frz ?h ?h2 ?_); (case h => exact rfl); (case h2 => walk_at "np"))
  | ((with_reducible refine' SV.wd_frzT ?h ?h2 ?h3 ?_); (case h => exact rfl); (case h2 => walk_at "np"); (case h3 => exact rfl))
  | fail)
local macro_rules | `(tactic| walk_at "gDtC") => `(tactic| first
  | (with_reducible refine SV.wd_int ?_)
  | (with_reducible refine SV.wd_bl ?_)
  | (with_reducible refine SV.wd_str ?_)
  | (with_reducible refine SV.wd_non ?_)
  | fail)
local macro_rules | `(tactic| walk_at "gWD") => `(tactic| first
  | ((with_reducible refine (?_ : SV.WD _ _ (L2.tOp _ _ _) _ _)); walk_at "gDtOp")
  | ((with_reducible refine (?_ : SV.WD _ _ (L2.tCB _ _) _ _)); walk_at "gDtCB")
  | ((with_reducible refine (?_ : SV.WD _ _ (L2.tVar _) _ _)); walk_at "gDtVar")
  | ((with_reducible refine (?_ : SV.WD _ _ (L2.tC _) _ _)); walk_at "gDtC")
  | (with_reducible refine SV.wd_chain ?_)
  | (with_reducible refine SV.wd_dnew ?_)
  | (with_reducible refine SV.wd_neg ?_)
  | (with_reducible refine SV.wd_isN ?_)
  | (with_reducible refine SV.wd_notN ?_)
  | (with_reducible refine SV.wd_tup ?_)
  | (with_reducible refine SV.wd_andV ?_)
  | (with_reducible refine SV.wd_orV ?_)
  | (with_reducible refine SV.wd_notV ?_)
  | (with_reducible refine SV.wd_e (SV.we_lst ?_))
  | ((with_reducible refine' SV.wd_e (SV.we_slS ?h ?_)); (case h => exact rfl))
  | ((with_reducible refine' SV.wd_e (SV.we_sl3S ?h ?_)); (case h => exact rfl))
  | ((with_reducible refine' SV.wd_e (SV.we_slO ?h ?_)); (case h => exact rfl))
  | (with_reducible refine SV.wd_e (SV.we_split ?_))
  | (with_reducible refine SV.wd_e (SV.we_sl ?_))
  | (with_reducible refine SV.wd_e (SV.we_callPN ?_))
  | (with_reducible refine SV.wd_e (SV.we_callF ?_))
  | (with_reducible refine SV.wd_e (SV.we_callP ?_))
  | (with_reducible refine SV.wd_e (SV.we_callFS ?_))
  | (with_reducible refine SV.wd_e (SV.we_callR ?_))
  | (with_reducible refine SV.wd_e (SV.we_callRS ?_))
  | (with_reducible refine SV.wd_e (SV.we_if ?_))
  | (with_reducible refine SV.wd_join ?_)
  | (with_reducible refine SV.wd_dinO ?_)
  | (with_reducible refine SV.wd_dnotinO ?_)
  | ((with_reducible refine' SV.wd_dgetO ?h ?_); (case h => exact rfl))
  | ((with_reducible refine' SV.we_count ?h ?_); (case h => exact rfl))
  | (with_reducible refine SV.wd_e (SV.we_listRg ?_))
  | fail)
local macro_rules | `(tactic| walk_at "gWE") => `(tactic| first
  | ((with_reducible refine' SV.we_appendV ?h ?h1 ?_); (case h => exact rfl); (case h1 => walk_at "np"))
  | (with_reducible refine SV.we_tupX ?_)
  | (with_reducible refine SV.we_lstX ?_)
  | ((with_reducible refine' SV.we_scr ?h ?_); (case h => exact rfl))
  | (with_reducible refine SV.we_lst ?_)
  | ((with_reducible refine' SV.we_slS ?h ?_); (case h => exact rfl))
  | ((with_reducible refine' SV.we_sl3S ?h ?_); (case h => exact rfl))
  | ((with_reducible refine' SV.we_slO ?h ?_); (case h => exact rfl))
  | (with_reducible refine SV.we_sl ?_)
  | ((with_reducible refine' SV.we_append ?h ?_); (case h => exact rfl))
  | (with_reducible refine SV.we_listRg ?_)
  | ((with_reducible refine' SV.we_extend ?h ?_); (case h => exact rfl))
  | ((with_reducible refine' SV.we_extT ?h ?_); (case h => exact rfl))
  | ((with_reducible refine' SV.we_listO ?h ?_); (case h => exact rfl))
  | (with_reducible refine SV.we_list ?_)
  | (with_reducible refine SV.we_split ?_)
  | (with_reducible refine SV.we_sortTI ?_)
  | (with_reducible refine SV.we_sortI ?_)
  | (with_reducible refine SV.we_plus ?_)
  | (with_reducible refine SV.we_rep ?_)
  | (with_reducible refine SV.we_callPN ?_)
  | (with_reducible refine SV.we_callF ?_)
  | (with_reducible refine SV.we_callP ?_)
  | (with_reducible refine SV.we_callFS ?_)
  | (with_reducible refine SV.we_callR ?_)
  | (with_reducible refine SV.we_callRS ?_)
  | (with_reducible refine SV.we_if ?_)
  | (with_reducible refine SV.we_disp1 (fun B' hB' => ?_))
  | (with_reducible refine SV.we_dnewO ?_)
  | ((with_reducible refine' SV.we_sortDI ?h ?h2 ?_); (case h => exact rfl); (case h2 => skip))
  | (with_reducible refine SV.we_d ?_)
  | fail)
local macro_rules | `(tactic| walk_at "gWT") => `(tactic| first
  | (with_reducible refine SV.wt_test ?_)
  | (with_reducible refine SV.wt_B ?_)
  | (with_reducible refine SV.wt_and ?_)
  | (with_reducible refine SV.wt_or ?_)
  | (with_reducible refine SV.wt_not ?_)
  | (with_reducible refine SV.wt_yes ?_)
  | fail)
local macro_rules | `(tactic| walk_at "gWA") => `(tactic| first
  | (with_reducible refine SV.wa_nil ?_)
  | ((with_reducible refine' SV.wa_own ?h ?_); (case h => exact rfl))
  | ((with_reducible refine' SV.wa_ownT ?h ?_); (case h => exact rfl))
  | ((with_reducible refine' SV.wa_ownD ?h ?_); (case h => exact rfl))
  | ((with_reducible refine' SV.wa_e (SV.we_scr ?h ?_)); (case h => exact rfl))
  | (with_reducible refine SV.wa_d ?_)
  | fail)
local macro_rules | `(tactic| walk_at "gWAf") => `(tactic| first
  | (with_reducible refine SV.waf_nil ?_)
  | ((with_reducible refine' SV.waf_scr ?h ?_); (case h => exact rfl))
  | ((with_reducible refine' SV.waf_raw ?h ?_); (case h => exact rfl))
  | (with_reducible refine SV.waf_d ?_)
  | fail)
local macro_rules | `(tactic| walk_at "gWXs") => `(tactic| first
  | (with_reducible refine SV.wx_nil ?_)
  | ((with_reducible refine' SV.wx_var ?h ?_); (case h => exact rfl))
  | (with_reducible refine SV.wx_str ?_)
  | (with_reducible refine SV.wx_int ?_)
  | ((with_reducible refine' SV.wx_take ?h ?h1 ?h2 ?_); (case h => assumption); (case h1 => exact rfl); (case h2 => walk_at "np"); intro a B' hB')
  | ((with_reducible refine' SV.wx_takeT ?h ?h1 ?h2 ?_); (case h => assumption); (case h1 => exact rfl); (case h2 => walk_at "np"); intro B' hB')
  | fail)
local macro_rules | `(tactic| walk_at "gWG") => `(tactic| first
  | ((with_reducible refine' SV.wg_name ?h ?_); (case h => walk_at "np"))
  | ((with_reducible refine' SV.wg_tup ?h ?_); (case h => exact rfl))
  | fail)
local macro_rules | `(tactic| walk_at "gWGs") => `(tactic| first
  | (with_reducible refine SV.wgs_cons ?_)
  | (with_reducible refine SV.wgs_nil ?_)
  | fail)
local macro_rules | `(tactic| walk_at "gWGT") => `(tactic| first
  | ((with_reducible refine' SV.wgt_d ?h ?_); (case h => walk_at "np"))
  | ((with_reducible refine' SV.wgt_o ?h ?_); (case h => walk_at "np"))
  | (with_reducible refine SV.wgt_nil ?_)
  | fail)
local macro_rules | `(tactic| walk_at "gWDs") => `(tactic| first
  | (with_reducible refine SV.wds_cons ?_)
  | (with_reducible refine SV.wds_nil ?_)
  | fail)
local macro_rules | `(tactic| walk_at "gWO") => `(tactic| first
  | (with_reducible refine SV.wo_none ?_)
  | (with_reducible refine SV.wo_some ?_)
  | fail)
local macro_rules | `(tactic| walk_at "gWK") => `(tactic| first
  | ((with_reducible refine' SV.wk_take ?h ?h1 ?_); (case h => exact rfl); (case h1 => walk_at "np"))
  | ((with_reducible refine' SV.wk_takeT ?h ?h1 ?_); (case h => exact rfl); (case h1 => walk_at "np"))
  | (with_reducible refine SV.wk_d ?_)
  | fail)
local macro_rules | `(tactic| walk_at "gWAN") => `(tactic| first
  | (with_reducible refine SV.wan_last ?_)
  | (with_reducible refine SV.wan_cons ?_)
  | fail)
local macro_rules | `(tactic| walk_at "gZ") => `(tactic| first
  | (with_reducible refine ⟨_, _, rfl, rfl, (?_ : SV.WGT _ _ _ _ _ _)⟩)
  | (with_reducible refine SV.len_map ?_)
  | (with_reducible refine SV.len_mapT ?_)
  | (with_reducible refine SV.len_list ?_)
  | (with_reducible refine SV.len_tup ?_)
  | (with_reducible refine SV.lof_list ?_)
  | (with_reducible refine SV.lof_tup ?_)
  | (with_reducible refine SV.slc_list ?_)
  | (with_reducible refine SV.slc_tup ?_)
  | (refine SV.plus_int ?_)
  | (refine SV.plus_str ?_ ?_)
  | (refine SV.plus_list ?_ ?_)
  | (with_reducible refine SV.fk_dec (fun hc => ?_) (fun hc => ?_))
  | (with_reducible refine SV.fk_not ?_)
  | (with_reducible refine SV.fk_int (fun hc => ?_) (fun hc => ?_))
  | (with_reducible refine SV.fk_nil (fun hc => ?_) (fun hc => ?_))
  | (with_reducible refine SV.fk_str (fun hc => ?_) (fun hc => ?_))
  | ((with_reducible refine' SV.fk_eqv ?hx ?hy (fun hc => ?_) (fun hc => ?_)); (case hx => walk_at "nob"); (case hy => walk_at "nob"))
  | (refine SV.fk_t ?_)
  | (refine SV.fk_f ?_)
  | (refine SV.idx_list rfl ?_)
  | (refine SV.idx_tup rfl ?_)
  | (refine And.intro (show SV.atomD _ = true from rfl) ?_)
  | (refine ⟨fun (_ : Addr) => False, rfl, ?_, fun C (h : False) => (h.elim : SV.EK _ _ L2.E0 C)⟩)
  | ((with_reducible refine' ⟨_, ?h, ?_⟩); (case h => exact rfl))
  | (refine ⟨⟨_, rfl⟩, ?_⟩)
  | (refine ⟨⟨_, _, rfl⟩, ?_⟩)
  | (refine ⟨_, _, _, rfl, rfl, rfl, ?_⟩)
  | (refine ⟨Sum.inl _, _, _, rfl, rfl, ?_⟩)
  | (refine And.intro ?hs ?_; (case hs => (first | omega | (simp only [List.length_cons, List.length_nil, List.length_append, List.length_map, SV.lim]; omega) | exact Or.inl ⟨by omega, by omega⟩ | exact Or.inr ⟨by omega, by omega⟩ | ((with_reducible refine' SV.ok2 ?u1 ?u2); (case u1 => walk_at "okd"); (case u2 => walk_at "okd")) | ((with_reducible refine' SV.ok2O ?u1 ?u2); (case u1 => walk_at "okd"); (case u2 => walk_at "okd")))))
  | (refine ⟨_, fun _ => False, rfl, ?_, fun C (h : False) => (h.elim : SV.EK _ _ L2.E0 C)⟩)
  | (refine ⟨[], _, _, _, _, _, fun _ => False, rfl, rfl, rfl, rfl, rfl, ?_, fun C (h : False) => (h.elim : SV.EK _ _ L2.E0 C)⟩)
  | (refine ⟨[_], [], _, _, _, _, fun _ => False, rfl, rfl, rfl, rfl, rfl, ?_, fun C (h : False) => (h.elim : SV.EK _ _ L2.E0 C)⟩)
  | fail)
local macro_rules | `(tactic| walk_at "sn1") => `(tactic| first
  | ((with_reducible refine (?_ : SV.WS _ _ _ _ _)); walk_at "gWS")
  | ((with_reducible refine (?_ : SV.WD _ _ _ _ _)); walk_at "gWD")
  | ((with_reducible refine (?_ : SV.WE _ _ _ _ _)); walk_at "gWE")
  | ((with_reducible refine (?_ : SV.WT _ _ _ _ _)); walk_at "gWT")
  | ((with_reducible refine (?_ : SV.WA _ _ _ _ _)); walk_at "gWA")
  | ((with_reducible refine (?_ : SV.WAf _ _ _ _ _)); walk_at "gWAf")
  | ((with_reducible refine (?_ : SV.WXs _ _ _ _ _)); walk_at "gWXs")
  | ((with_reducible refine (?_ : SV.WG _ _ _ _ _ _)); walk_at "gWG")
  | ((with_reducible refine (?_ : SV.WGs _ _ _ _ _ _)); walk_at "gWGs")
  | ((with_reducible refine (?_ : SV.WGT _ _ _ _ _ _)); walk_at "gWGT")
  | ((with_reducible refine (?_ : SV.WDs _ _ _ _ _)); walk_at "gWDs")
  | ((with_reducible refine (?_ : SV.WO _ _ _ _ _)); walk_at "gWO")
  | ((with_reducible refine (?_ : SV.WK _ _ _ _ _)); walk_at "gWK")
  | ((with_reducible refine (?_ : SV.WAN _ _ _ _ _)); walk_at "gWAN")
  | walk_at "gZ"
  | fail)
local macro_rules | `(tactic| walk_at "sn") => `(tactic| repeat' (walk_at "sn1"))
local macro_rules | `(tactic| walk_at "sv1") => `(tactic| first | (with_reducible refine SV.ws_if ?_) | walk_at "sn1")
local macro_rules | `(tactic| walk_at "sv") => `(tactic| repeat' (walk_at "sv1"))
set_option hygiene true

namespace SV
open PySem PySem.Spec L2
open Evl (Ex)
def topS (i : Nat) : Stmt := PySem.Challenge.pw_pagepart_k66_printed.main.body.getD i (.Pass ⟨0, 0, 0, 0⟩)
abbrev s_is_word : Stmt := topS 8
abbrev N_is_word : List Str := ["thing", "sign"]
theorem sc_is_word : FnScope N_is_word ["thing"] (defScope s_is_word) := ⟨rfl, rfl, rfl, by decide +kernel, rfl, by decide +kernel, by decide +kernel⟩
abbrev s_need_words : Stmt := topS 9
abbrev N_need_words : List Str := ["things", "thing"]
theorem sc_need_words : FnScope N_need_words ["things"] (defScope s_need_words) := ⟨rfl, rfl, rfl, by decide +kernel, rfl, by decide +kernel, by decide +kernel⟩
abbrev s_put_word : Stmt := topS 10
abbrev N_put_word : List Str := ["found", "word", "wide"]
theorem sc_put_word : FnScope N_put_word ["found", "word", "wide"] (defScope s_put_word) := ⟨rfl, rfl, rfl, by decide +kernel, rfl, by decide +kernel, by decide +kernel⟩
abbrev s_lines : Stmt := topS 11
abbrev N_lines : List Str := ["words", "wide", "found", "word"]
theorem sc_lines : FnScope N_lines ["words", "wide"] (defScope s_lines) := ⟨rfl, rfl, rfl, by decide +kernel, rfl, by decide +kernel, by decide +kernel⟩
abbrev s_taken : Stmt := topS 12
abbrev N_taken : List Str := ["sizes", "wide", "many", "used", "size"]
theorem sc_taken : FnScope N_taken ["sizes", "wide"] (defScope s_taken) := ⟨rfl, rfl, rfl, by decide +kernel, rfl, by decide +kernel, by decide +kernel⟩
abbrev s_next_stair : Stmt := topS 13
abbrev N_next_stair : List Str := ["sizes", "wide", "many", "whole", "middle"]
theorem sc_next_stair : FnScope N_next_stair ["sizes", "wide", "many", "whole"] (defScope s_next_stair) := ⟨rfl, rfl, rfl, by decide +kernel, rfl, by decide +kernel, by decide +kernel⟩
abbrev s_text_stairs : Stmt := topS 14
abbrev N_text_stairs : List Str := ["words", "sizes", "word", "whole", "found", "wide"]
theorem sc_text_stairs : FnScope N_text_stairs ["words"] (defScope s_text_stairs) := ⟨rfl, rfl, rfl, by decide +kernel, rfl, by decide +kernel, by decide +kernel⟩
abbrev s_is_whole : Stmt := topS 16
abbrev N_is_whole : List Str := ["thing"]
theorem sc_is_whole : FnScope N_is_whole ["thing"] (defScope s_is_whole) := ⟨rfl, rfl, rfl, by decide +kernel, rfl, by decide +kernel, by decide +kernel⟩
abbrev s_is_tree : Stmt := topS 19
abbrev N_is_tree : List Str := ["thing", "numbers", "pile", "here", "above", "kind", "parts", "part"]
theorem sc_is_tree : FnScope N_is_tree ["thing"] (defScope s_is_tree) := ⟨rfl, rfl, rfl, by decide +kernel, rfl, by decide +kernel, by decide +kernel⟩
abbrev s_need_tree : Stmt := topS 20
abbrev N_need_tree : List Str := ["thing"]
theorem sc_need_tree : FnScope N_need_tree ["thing"] (defScope s_need_tree) := ⟨rfl, rfl, rfl, by decide +kernel, rfl, by decide +kernel, by decide +kernel⟩
abbrev s_count_boxes : Stmt := topS 21
abbrev N_count_boxes : List Str := ["tree", "part"]
theorem sc_count_boxes : FnScope N_count_boxes ["tree"] (defScope s_count_boxes) := ⟨rfl, rfl, rfl, by decide +kernel, rfl, by decide +kernel, by decide +kernel⟩
abbrev s_boxes_of : Stmt := topS 22
abbrev N_boxes_of : List Str := ["tree"]
theorem sc_boxes_of : FnScope N_boxes_of ["tree"] (defScope s_boxes_of) := ⟨rfl, rfl, rfl, by decide +kernel, rfl, by decide +kernel, by decide +kernel⟩
abbrev s_joined : Stmt := topS 25
abbrev N_joined : List Str := ["parts", "near", "far", "steps", "k", "part", "stair", "now", "found", "measure", "other", "total"]
theorem sc_joined : FnScope N_joined ["parts", "near", "far"] (defScope s_joined) := ⟨rfl, rfl, rfl, by decide +kernel, rfl, by decide +kernel, by decide +kernel⟩
abbrev s_stairs_by : Stmt := topS 26
abbrev N_stairs_by : List Str := ["kind", "parts", "high", "wide"]
theorem sc_stairs_by : FnScope N_stairs_by ["kind", "parts"] (defScope s_stairs_by) := ⟨rfl, rfl, rfl, by decide +kernel, rfl, by decide +kernel, by decide +kernel⟩
abbrev s_measured : Stmt := topS 27
abbrev N_measured : List Str := ["tree", "texts", "parts", "part"]
theorem sc_measured : FnScope N_measured ["tree", "texts"] (defScope s_measured) := ⟨rfl, rfl, rfl, by decide +kernel, rfl, by decide +kernel, by decide +kernel⟩
abbrev s_need_measured : Stmt := topS 28
abbrev N_need_measured : List Str := ["tree", "texts", "many", "words"]
theorem sc_need_measured : FnScope N_need_measured ["tree", "texts"] (defScope s_need_measured) := ⟨rfl, rfl, rfl, by decide +kernel, rfl, by decide +kernel, by decide +kernel⟩
abbrev s_tree_stairs : Stmt := topS 29
abbrev N_tree_stairs : List Str := ["tree", "texts"]
theorem sc_tree_stairs : FnScope N_tree_stairs ["tree", "texts"] (defScope s_tree_stairs) := ⟨rfl, rfl, rfl, by decide +kernel, rfl, by decide +kernel, by decide +kernel⟩
abbrev s_high_for : Stmt := topS 30
abbrev N_high_for : List Str := ["stairs", "wide", "found", "stair"]
theorem sc_high_for : FnScope N_high_for ["stairs", "wide"] (defScope s_high_for) := ⟨rfl, rfl, rfl, by decide +kernel, rfl, by decide +kernel, by decide +kernel⟩
abbrev s_wide_for : Stmt := topS 31
abbrev N_wide_for : List Str := ["stairs", "high", "stair"]
theorem sc_wide_for : FnScope N_wide_for ["stairs", "high"] (defScope s_wide_for) := ⟨rfl, rfl, rfl, by decide +kernel, rfl, by decide +kernel, by decide +kernel⟩
abbrev s_least_high : Stmt := topS 32
abbrev N_least_high : List Str := ["tree", "texts", "wide"]
theorem sc_least_high : FnScope N_least_high ["tree", "texts", "wide"] (defScope s_least_high) := ⟨rfl, rfl, rfl, by decide +kernel, rfl, by decide +kernel, by decide +kernel⟩
abbrev s_least_wide : Stmt := topS 33
abbrev N_least_wide : List Str := ["tree", "texts", "high"]
theorem sc_least_wide : FnScope N_least_wide ["tree", "texts", "high"] (defScope s_least_wide) := ⟨rfl, rfl, rfl, by decide +kernel, rfl, by decide +kernel, by decide +kernel⟩
abbrev s_laid_beside : Stmt := topS 35
abbrev N_laid_beside : List Str := ["parts", "piece", "left", "top", "right", "below", "found", "part", "wide"]
theorem sc_laid_beside : FnScope N_laid_beside ["parts", "piece"] (defScope s_laid_beside) := ⟨rfl, rfl, rfl, by decide +kernel, rfl, by decide +kernel, by decide +kernel⟩
abbrev s_laid_beneath : Stmt := topS 36
abbrev N_laid_beneath : List Str := ["parts", "piece", "left", "top", "right", "below", "found", "part", "high"]
theorem sc_laid_beneath : FnScope N_laid_beneath ["parts", "piece"] (defScope s_laid_beneath) := ⟨rfl, rfl, rfl, by decide +kernel, rfl, by decide +kernel, by decide +kernel⟩
abbrev s_setting : Stmt := topS 37
abbrev N_setting : List Str := ["tree", "texts", "wide", "high", "whole", "least", "found", "pile", "here", "piece", "number"]
theorem sc_setting : FnScope N_setting ["tree", "texts", "wide", "high"] (defScope s_setting) := ⟨rfl, rfl, rfl, by decide +kernel, rfl, by decide +kernel, by decide +kernel⟩
abbrev s_printed : Stmt := topS 40
abbrev N_printed : List Str := ["tree", "texts", "wide", "high", "rows", "x", "y", "box", "words", "line", "sign", "row"]
theorem sc_printed : FnScope N_printed ["tree", "texts", "wide"] (defScope s_printed) := ⟨rfl, rfl, rfl, by decide +kernel, rfl, by decide +kernel, by decide +kernel⟩
abbrev s_law_stir : Stmt := topS 42
abbrev N_law_stir : List Str := ["cell", "k", "number"]
theorem sc_law_stir : FnScope N_law_stir ["cell", "k"] (defScope s_law_stir) := ⟨rfl, rfl, rfl, by decide +kernel, rfl, by decide +kernel, by decide +kernel⟩
abbrev s_law_cell : Stmt := topS 43
abbrev N_law_cell : List Str := ["script", "k"]
theorem sc_law_cell : FnScope N_law_cell ["script", "k"] (defScope s_law_cell) := ⟨rfl, rfl, rfl, by decide +kernel, rfl, by decide +kernel, by decide +kernel⟩
abbrev s_law_lack : Stmt := topS 44
abbrev N_law_lack : List Str := ["pile", "lack", "kind", "parts"]
theorem sc_law_lack : FnScope N_law_lack ["pile"] (defScope s_law_lack) := ⟨rfl, rfl, rfl, by decide +kernel, rfl, by decide +kernel, by decide +kernel⟩
abbrev s_law_shape : Stmt := topS 45
abbrev N_law_shape : List Str := ["cells", "kind", "most", "pile", "many", "cell", "room", "closed"]
theorem sc_law_shape : FnScope N_law_shape ["cells", "kind", "most"] (defScope s_law_shape) := ⟨rfl, rfl, rfl, by decide +kernel, rfl, by decide +kernel, by decide +kernel⟩
abbrev s_law_count : Stmt := topS 46
abbrev N_law_count : List Str := ["shape", "part"]
theorem sc_law_count : FnScope N_law_count ["shape"] (defScope s_law_count) := ⟨rfl, rfl, rfl, by decide +kernel, rfl, by decide +kernel, by decide +kernel⟩
abbrev s_law_numbered : Stmt := topS 47
abbrev N_law_numbered : List Str := ["shape", "left", "part"]
theorem sc_law_numbered : FnScope N_law_numbered ["shape", "left"] (defScope s_law_numbered) := ⟨rfl, rfl, rfl, by decide +kernel, rfl, by decide +kernel, by decide +kernel⟩
abbrev s_law_tree : Stmt := topS 48
abbrev N_law_tree : List Str := ["script", "first", "most", "shape", "left", "order", "k"]
theorem sc_law_tree : FnScope N_law_tree ["script", "first", "most"] (defScope s_law_tree) := ⟨rfl, rfl, rfl, by decide +kernel, rfl, by decide +kernel, by decide +kernel⟩
abbrev s_law_word : Stmt := topS 49
abbrev N_law_word : List Str := ["cell", "some", "word", "left", "k"]
theorem sc_law_word : FnScope N_law_word ["cell"] (defScope s_law_word) := ⟨rfl, rfl, rfl, by decide +kernel, rfl, by decide +kernel, by decide +kernel⟩
abbrev s_law_texts : Stmt := topS 50
abbrev N_law_texts : List Str := ["script", "many", "texts", "k", "size", "j"]
theorem sc_law_texts : FnScope N_law_texts ["script", "many"] (defScope s_law_texts) := ⟨rfl, rfl, rfl, by decide +kernel, rfl, by decide +kernel, by decide +kernel⟩
abbrev s_law_due : Stmt := topS 51
abbrev N_law_due : List Str := ["boxes", "texts", "wide", "high", "rows", "y", "k", "left", "top", "right", "below", "told", "x", "row"]
theorem sc_law_due : FnScope N_law_due ["boxes", "texts", "wide", "high"] (defScope s_law_due) := ⟨rfl, rfl, rfl, by decide +kernel, rfl, by decide +kernel, by decide +kernel⟩
abbrev s_law : Stmt := topS 52
abbrev N_law : List Str := ["script", "tree", "texts", "wide", "high", "handed", "words", "due", "found", "row"]
theorem sc_law : FnScope N_law ["script"] (defScope s_law) := ⟨rfl, rfl, rfl, by decide +kernel, rfl, by decide +kernel, by decide +kernel⟩
structure Txt [Tbs] (K : Fr) (mg : Str → Option Value) where
  b_ValueError : mg "ValueError" = none
  b_bool : mg "bool" = none
  b_enumerate : mg "enumerate" = none
  b_int : mg "int" = none
  b_isinstance : mg "isinstance" = none
  b_len : mg "len" = none
  b_list : mg "list" = none
  b_max : mg "max" = none
  b_min : mg "min" = none
  b_range : mg "range" = none
  b_sorted : mg "sorted" = none
  b_str : mg "str" = none
  b_sum : mg "sum" = none
  b_tuple : mg "tuple" = none
  b_zip : mg "zip" = none
  t_MOST_SIGNS : Tok
  c_MOST_SIGNS : mg "MOST_SIGNS" = some (.int 12 t_MOST_SIGNS)
  t_SIGNS : Tok
  c_SIGNS : mg "SIGNS" = some (.str "!\"#$&'()*+,-./0123456789:;<=>?@ABCDEFGHIJKLMNOPQRSTUVWXYZ[\\]^_`abcdefghijklmnopqrstuvwxyz{|}~" t_SIGNS)
  t_MOST_BOXES : Tok
  c_MOST_BOXES : mg "MOST_BOXES" = some (.int 24 t_MOST_BOXES)
  t_MOST_WORDS : Tok
  c_MOST_WORDS : mg "MOST_WORDS" = some (.int 40 t_MOST_WORDS)
  t_MOST_WIDE : Tok
  c_MOST_WIDE : mg "MOST_WIDE" = some (.int 400 t_MOST_WIDE)
  a_PartError : Addr
  PartError : ExcT K mg "PartError" a_PartError
  a_NoTree : Addr
  NoTree : ExcT K mg "NoTree" a_NoTree
  a_NoTexts : Addr
  NoTexts : ExcT K mg "NoTexts" a_NoTexts
  a_NoRoom : Addr
  NoRoom : ExcT K mg "NoRoom" a_NoRoom
  f_is_word : Addr
  fd_is_word : FuncData
  d_is_word : Df K mg "is_word" s_is_word ["thing"] f_is_word fd_is_word
  f_need_words : Addr
  fd_need_words : FuncData
  d_need_words : Df K mg "need_words" s_need_words ["things"] f_need_words fd_need_words
  f_put_word : Addr
  fd_put_word : FuncData
  d_put_word : Df K mg "put_word" s_put_word ["found", "word", "wide"] f_put_word fd_put_word
  f_lines : Addr
  fd_lines : FuncData
  d_lines : Df K mg "lines" s_lines ["words", "wide"] f_lines fd_lines
  f_taken : Addr
  fd_taken : FuncData
  d_taken : Df K mg "taken" s_taken ["sizes", "wide"] f_taken fd_taken
  f_next_stair : Addr
  fd_next_stair : FuncData
  d_next_stair : Df K mg "next_stair" s_next_stair ["sizes", "wide", "many", "whole"] f_next_stair fd_next_stair
  f_text_stairs : Addr
  fd_text_stairs : FuncData
  d_text_stairs : Df K mg "text_stairs" s_text_stairs ["words"] f_text_stairs fd_text_stairs
  f_is_whole : Addr
  fd_is_whole : FuncData
  d_is_whole : Df K mg "is_whole" s_is_whole ["thing"] f_is_whole fd_is_whole
  f_is_tree : Addr
  fd_is_tree : FuncData
  d_is_tree : Df K mg "is_tree" s_is_tree ["thing"] f_is_tree fd_is_tree
  f_need_tree : Addr
  fd_need_tree : FuncData
  d_need_tree : Df K mg "need_tree" s_need_tree ["thing"] f_need_tree fd_need_tree
  f_count_boxes : Addr
  fd_count_boxes : FuncData
  d_count_boxes : Df K mg "count_boxes" s_count_boxes ["tree"] f_count_boxes fd_count_boxes
  f_boxes_of : Addr
  fd_boxes_of : FuncData
  d_boxes_of : Df K mg "boxes_of" s_boxes_of ["tree"] f_boxes_of fd_boxes_of
  f_joined : Addr
  fd_joined : FuncData
  d_joined : Df K mg "joined" s_joined ["parts", "near", "far"] f_joined fd_joined
  f_stairs_by : Addr
  fd_stairs_by : FuncData
  d_stairs_by : Df K mg "stairs_by" s_stairs_by ["kind", "parts"] f_stairs_by fd_stairs_by
  f_measured : Addr
  fd_measured : FuncData
  d_measured : Df K mg "measured" s_measured ["tree", "texts"] f_measured fd_measured
  f_need_measured : Addr
  fd_need_measured : FuncData
  d_need_measured : Df K mg "need_measured" s_need_measured ["tree", "texts"] f_need_measured fd_need_measured
  f_tree_stairs : Addr
  fd_tree_stairs : FuncData
  d_tree_stairs : Df K mg "tree_stairs" s_tree_stairs ["tree", "texts"] f_tree_stairs fd_tree_stairs
  f_high_for : Addr
  fd_high_for : FuncData
  d_high_for : Df K mg "high_for" s_high_for ["stairs", "wide"] f_high_for fd_high_for
  f_wide_for : Addr
  fd_wide_for : FuncData
  d_wide_for : Df K mg "wide_for" s_wide_for ["stairs", "high"] f_wide_for fd_wide_for
  f_least_high : Addr
  fd_least_high : FuncData
  d_least_high : Df K mg "least_high" s_least_high ["tree", "texts", "wide"] f_least_high fd_least_high
  f_least_wide : Addr
  fd_least_wide : FuncData
  d_least_wide : Df K mg "least_wide" s_least_wide ["tree", "texts", "high"] f_least_wide fd_least_wide
  f_laid_beside : Addr
  fd_laid_beside : FuncData
  d_laid_beside : Df K mg "laid_beside" s_laid_beside ["parts", "piece"] f_laid_beside fd_laid_beside
  f_laid_beneath : Addr
  fd_laid_beneath : FuncData
  d_laid_beneath : Df K mg "laid_beneath" s_laid_beneath ["parts", "piece"] f_laid_beneath fd_laid_beneath
  f_setting : Addr
  fd_setting : FuncData
  d_setting : Df K mg "setting" s_setting ["tree", "texts", "wide", "high"] f_setting fd_setting
  f_printed : Addr
  fd_printed : FuncData
  d_printed : Df K mg "printed" s_printed ["tree", "texts", "wide"] f_printed fd_printed
  f_law_stir : Addr
  fd_law_stir : FuncData
  d_law_stir : Df K mg "_law_stir" s_law_stir ["cell", "k"] f_law_stir fd_law_stir
  f_law_cell : Addr
  fd_law_cell : FuncData
  d_law_cell : Df K mg "_law_cell" s_law_cell ["script", "k"] f_law_cell fd_law_cell
  f_law_lack : Addr
  fd_law_lack : FuncData
  d_law_lack : Df K mg "_law_lack" s_law_lack ["pile"] f_law_lack fd_law_lack
  f_law_shape : Addr
  fd_law_shape : FuncData
  d_law_shape : Df K mg "_law_shape" s_law_shape ["cells", "kind", "most"] f_law_shape fd_law_shape
  f_law_count : Addr
  fd_law_count : FuncData
  d_law_count : Df K mg "_law_count" s_law_count ["shape"] f_law_count fd_law_count
  f_law_numbered : Addr
  fd_law_numbered : FuncData
  d_law_numbered : Df K mg "_law_numbered" s_law_numbered ["shape", "left"] f_law_numbered fd_law_numbered
  f_law_tree : Addr
  fd_law_tree : FuncData
  d_law_tree : Df K mg "_law_tree" s_law_tree ["script", "first", "most"] f_law_tree fd_law_tree
  f_law_word : Addr
  fd_law_word : FuncData
  d_law_word : Df K mg "_law_word" s_law_word ["cell"] f_law_word fd_law_word
  f_law_texts : Addr
  fd_law_texts : FuncData
  d_law_texts : Df K mg "_law_texts" s_law_texts ["script", "many"] f_law_texts fd_law_texts
  f_law_due : Addr
  fd_law_due : FuncData
  d_law_due : Df K mg "_law_due" s_law_due ["boxes", "texts", "wide", "high"] f_law_due fd_law_due
  f_law : Addr
  fd_law : FuncData
  d_law : Df K mg "law" s_law ["script"] f_law fd_law
  e_NoTree : ExcC K a_NoTree
  e_NoTexts : ExcC K a_NoTexts
  e_NoRoom : ExcC K a_NoRoom
section
variable [Tbs] {P : Program} {w : World} {K : Fr} {mg : Str → Option Value} {base : Heap}


/-! ### words of 1 to 12 signs -/
def someS : Str := "!\"#$&'()*+,-./0123456789:;<=>?@ABCDEFGHIJKLMNOPQRSTUVWXYZ[\\]^_`abcdefghijklmnopqrstuvwxyz{|}~"
/-- a word: 1 to 12 signs of these -/
def IsWord (w : Str) : Prop := 1 ≤ w.length ∧ w.length ≤ 12 ∧ ∀ c, c ∈ w.cps.toList → c ∈ someS.cps.toList
theorem someS_len : someS.cps.toList.length = 93 := by decide +kernel
theorem atI_lt {α : Type} {xs : List α} {i : Int} (h0 : 0 ≤ i) (h : i < xs.length) : ∃ x, atI xs i = some x ∧ x ∈ xs := by
  have e : ixN xs.length i = some i.toNat := by
    unfold ixN
    rw [if_pos h0, if_pos h]
  have hl : i.toNat < xs.length := by omega
  exact ⟨xs[i.toNat], by unfold atI; rw [e]; exact List.getElem?_eq_getElem hl, List.getElem_mem hl⟩
theorem app_len (a b : Str) : (a ++ b).length = a.length + b.length := Array.size_append
theorem app_list (a b : Str) : (a ++ b).cps.toList = a.cps.toList ++ b.cps.toList := Array.toList_append
theorem strOk_app {a b : Str} (ha : PyData.strOk a = true) (hb : PyData.strOk b = true) : PyData.strOk (a ++ b) = true := by
  unfold PyData.strOk at *
  rw [← Array.all_toList] at *
  rw [app_list, List.all_append, ha, hb]
  rfl
theorem strOk_word {x : Str} (h : IsWord x) : PyData.strOk x = true := by
  unfold PyData.strOk
  rw [← Array.all_toList, List.all_eq_true]
  intro c hc
  have h2 : someS.cps.toList.all (fun c => decide (c < 1114112)) = true := by decide +kernel
  exact List.all_eq_true.mp h2 c (h.2.2 c hc)
def spS : Str := (" " : String)
theorem spS_len : spS.length = 1 := by decide +kernel
theorem strOk_sp : PyData.strOk spS = true := by decide +kernel
theorem snoc_cases {α : Type} (l : List α) : l = [] ∨ ∃ g x, l = g ++ [x] := by
  rcases List.eq_nil_or_concat l with h | ⟨g, x, h⟩
  · exact .inl h
  · exact .inr ⟨g, x, by rw [h, List.concat_eq_append]⟩
theorem snoc_ind {α : Type} {P : List α → Prop} (h0 : P []) (hs : ∀ l x, P l → P (l ++ [x])) : ∀ l, P l := by
  have key : ∀ n (l : List α), l.length = n → P l := by
    intro n
    induction n with
    | zero => intro l h; rw [List.eq_nil_of_length_eq_zero h]; exact h0
    | succ n ih =>
      intro l h
      rcases snoc_cases l with rfl | ⟨g, x, rfl⟩
      · cases h
      · refine hs g x (ih g ?_)
        rw [List.length_append] at h
        simp only [List.length_cons, List.length_nil] at h
        omega
  exact fun l => key _ l rfl
/-- the turns of a range -/
theorem ixs_split {lo : Int} {n : Nat} {pre post : List Int} {a : Int} (h : ixs lo n = pre ++ a :: post) : a = lo + (pre.length : Int) ∧ pre.length < n := by
  have e : (ixs lo n)[pre.length]? = some a := by rw [h, List.getElem?_append_right (Nat.le_refl _), Nat.sub_self]; rfl
  rw [ixs_at] at e
  split at e
  · exact ⟨(Option.some.inj e).symm, by assumption⟩
  · cases e
theorem cutD_len {α : Type} (ns : List α) (a b : Option Int) : (cutD ns a b).length ≤ ns.length := by
  unfold cutD
  rw [List.length_take, List.length_drop]
  omega
/-- a comprehension each of whose items is some thing of a kind -/
theorem Sel.pick {α β : Type} {f : β → PyData} {G : β → Prop} {as : List α} {ys : List PyData} (s : Sel (fun _ o => ∃ b, G b ∧ o = some (f b)) as ys) : ∃ bs : List β, ys = bs.map f ∧ (∀ b, b ∈ bs → G b) ∧ bs.length = as.length := by
  induction s with
  | nil => exact ⟨[], rfl, (fun b h => nomatch h), rfl⟩
  | yes _ h ih =>
    obtain ⟨bs, rfl, h1, h2⟩ := ih
    obtain ⟨b, hb, e⟩ := h
    cases e
    refine ⟨bs ++ [b], by rw [List.map_append]; rfl, fun c hc => ?_, by rw [List.length_append, List.length_append, h2]; rfl⟩
    rcases List.mem_append.mp hc with k | k
    · exact h1 c k
    · rw [List.mem_singleton.mp k]; exact hb
  | no _ h => obtain ⟨_, _, e⟩ := h; cases e
theorem ixs_mem {lo x : Int} {n : Nat} (h : x ∈ ixs lo n) : lo ≤ x ∧ x < lo + n := by
  obtain ⟨i, hi, e⟩ := List.getElem_of_mem h
  have e2 := ixs_at (lo := lo) (n := n) (i := i)
  rw [List.getElem?_eq_getElem hi, e] at e2
  split at e2
  · have e3 := Option.some.inj e2
    omega
  · cases e2
theorem cutD_from {α : Type} {xs : List α} {n : Nat} (h : n ≤ xs.length) : cutD xs (some (n : Int)) none = xs.drop n := by
  unfold cutD
  rw [HT.sIx_nat, HT.sIx_none, Nat.min_eq_left h]
  exact List.take_of_length_le (by rw [List.length_drop]; exact Nat.le_refl _)
theorem cutD_to {α : Type} {xs : List α} {n : Nat} (h : n ≤ xs.length) : cutD xs none (some (n : Int)) = xs.take n := by
  unfold cutD
  rw [HT.sIx_nat, HT.sIx_none, Nat.min_eq_left h, List.drop_zero, Nat.sub_zero]

/-! ### is_word, need_words, put_word, lines -/
def isWordD : PyData → Bool
  | .str s => decide (1 ≤ s.length) && decide (s.length ≤ 12) && s.cps.toList.all fun c => decide (c ∈ someS.cps.toList)
  | _ => false
theorem isWordD_iff {s : Str} : isWordD (.str s) = true ↔ IsWord s := by
  unfold isWordD IsWord
  rw [Bool.and_eq_true, Bool.and_eq_true, decide_eq_true_eq, decide_eq_true_eq, List.all_eq_true, and_assoc]
  constructor
  · exact fun ⟨a, b, c⟩ => ⟨a, b, fun x hx => of_decide_eq_true (c x hx)⟩
  · exact fun ⟨a, b, c⟩ => ⟨a, b, fun x hx => decide_eq_true (c x hx)⟩
/-- no text too long to be asked for its length -/
def shortD : PyData → Prop
  | .str s => s.length ≤ 100000
  | _ => True
def G_is_word : GF := fun ls Po _ => ∃ x, ls = [.d x] ∧ shortD x ∧ Po (.d (.bool (isWordD x))) []
theorem ok_is_word (T : Txt K mg) : FnOk P w K mg base CX0 1 T.f_is_word T.fd_is_word ["thing"] (SpG K none G_is_word) := by
  refine T.d_is_word.F.ok sc_is_word (SpG.len (n := 1) fun ls Po Pe h => by obtain ⟨_, rfl, _⟩ := h; rfl) (fun cdv A outer s H vs Q E hr h => ⟨_, (pss_cons (ps_if (PW.pt (pw_or (pt_not (pt_val (pe_callB (k_isi K) (by rfl) T.b_isinstance (by decide +kernel) (pa_cons (pv 0) (pa_cons (pe_bltn (v := .ty "str") (by rfl) T.b_str (by decide +kernel) rfl) pa_nil))))) (pw_or (pt_cmpR op_lt (pe_callB (k_len K) (by rfl) T.b_len PySem.boot_len (pa_cons (pv 0) pa_nil)) pe_int (nomark _)) (pw_or1 (pt_cmpR op_gt (pe_callB (k_len K) (by rfl) T.b_len PySem.boot_len (pa_cons (pv 0) pa_nil)) (pe_glob (v := .int 12) rfl T.c_MOST_SIGNS ⟨_, rfl⟩) (nomark _)))))) (pss_one (ps_ret pe_bl)) pss_nil)
 (pss_cons (ps_for PassesOwn.never rfl (pi_str (pv 0)) (pg_name (i := 1) sc_is_word.nd rfl (Or.inl rfl)) (pss_one (ps_if (pt_cmpR op_notIn_sign (pv 1) (pe_glob (v := .str "!\"#$&'()*+,-./0123456789:;<=>?@ABCDEFGHIJKLMNOPQRSTUVWXYZ[\\]^_`abcdefghijklmnopqrstuvwxyz{|}~") rfl T.c_SIGNS ⟨_, rfl⟩) (by rfl)) (pss_one (ps_ret pe_bl)) pss_nil)))
 (pss_one (ps_ret pe_bl)))), rd_of h fun B ls Po Pe hB hG hE => ?_⟩)
  obtain ⟨x, rfl, hs, q⟩ := hG
  show WS B K _ [some (.d x), none] _
  cases x
  case str z =>
    have hl : z.length ≤ lim := Nat.le_trans hs (by decide)
    walk_at "sv"
    · have e : isWordD (.str z) = false := Bool.eq_false_iff.mpr fun h => by have := (isWordD_iff.mp h).1; omega
      rw [e] at q
      exact q
    · have e : isWordD (.str z) = false := Bool.eq_false_iff.mpr fun h => by have := (isWordD_iff.mp h).2.1; omega
      rw [e] at q
      exact q
    · refine ws_forS ?_
      walk_at "sv"
      refine ⟨fun pre ρ => (∃ o, ρ = [some (.d (.str z)), o]) ∧ ∀ c, c ∈ pre → c ∈ someS.cps.toList, ⟨⟨_, rfl⟩, fun c hc => nomatch hc⟩, fun pre a post ρ2 ha hI => ?_, fun ρ2 hI => ?_⟩
      · obtain ⟨⟨o, rfl⟩, hp⟩ := hI
        walk_at "sv"
        · intro c hc'
          rcases List.mem_append.mp hc' with h | h
          · exact hp c h
          · have : c = a := by simpa using h
            rw [this]
            exact hc
        · have e : isWordD (.str z) = false := Bool.eq_false_iff.mpr fun h => absurd ((isWordD_iff.mp h).2.2 a (by rw [ha]; simp)) hc
          rw [e] at q
          exact q
      · obtain ⟨⟨o, rfl⟩, hp⟩ := hI
        walk_at "sv"
        have e : isWordD (.str z) = true := isWordD_iff.mpr ⟨by omega, by omega, hp⟩
        rw [e] at q
        exact q
  all_goals
    walk_at "sv"
    exact q
def wordsD : PyData → Bool
  | .list xs => xs.all isWordD
  | _ => false
def shortsD : PyData → Prop
  | .list xs => ∀ x, x ∈ xs → shortD x
  | _ => True
def G_need_words (C : Addr) : GF := fun ls Po Pe => ∃ x, ls = [.d x] ∧ shortsD x ∧ (wordsD x = true → Po (.d .none) []) ∧ (wordsD x = false → Pe C)
theorem ok_need_words (T : Txt K mg) : FnOk P w K mg base (L2.CX P w) 2 T.f_need_words T.fd_need_words ["things"] (SpG K none (G_need_words T.a_NoTexts)) := by
  refine T.d_need_words.F.okX sc_need_words (SpG.len (n := 1) fun ls Po Pe h => by obtain ⟨_, rfl, _⟩ := h; rfl) (fun cdv A outer s H vs Q E hr h => ⟨_, (pss_cons (ps_if (pt_not (pt_val (pe_callB (k_isi K) (by rfl) T.b_isinstance (by decide +kernel) (pa_cons (pv 0) (pa_cons (pe_bltn (v := .ty "list") (by rfl) T.b_list (by decide +kernel) rfl) pa_nil))))) (pss_one (p_raise (takes_of rfl rfl rfl rfl) (pmk_own PySem.F.excBase_ValueError T.NoTexts.x T.NoTexts.g T.NoTexts.k (raises_own T.NoTexts.b T.NoTexts.t) (by exact rfl)))) pss_nil)
 (pss_one (ps_for (passes_of rfl) rfl (k_piL K rfl (pv 0)) (pg_name (i := 1) sc_need_words.nd rfl (Or.inl rfl)) (pss_one (ps_if (pt_not (pt_val (pe_call (ok_is_word T) hr (by rfl) T.d_is_word.g T.d_is_word.kp T.d_is_word.b .nil pass0 (pa_cons (pv 1) pa_nil)))) (pss_one (p_raise (takes_of rfl rfl rfl rfl) (pmk_own PySem.F.excBase_ValueError T.NoTexts.x T.NoTexts.g T.NoTexts.k (raises_own T.NoTexts.b T.NoTexts.t) (by exact rfl)))) pss_nil))))), rd_of h fun B ls Po Pe hB hG hE => ?_⟩)
  obtain ⟨x, rfl, hs, q1, q2⟩ := hG
  show WS B K _ [some (.d x), none] _
  cases x
  case list xs =>
    walk_at "sv"
    refine ws_forL id ?_
    walk_at "sv"
    refine ⟨xs, by rw [List.map_id], fun pre ρ => (∃ o, ρ = [some (.d (.list xs)), o]) ∧ ∀ y, y ∈ pre → isWordD y = true, ⟨⟨_, rfl⟩, fun c hc => nomatch hc⟩, fun pre a post ρ2 ha hI => ?_, fun ρ2 hI => ?_⟩
    · obtain ⟨⟨o, rfl⟩, hp⟩ := hI
      have hm : a ∈ xs := by rw [ha]; simp
      walk_at "sv"
      refine ⟨_, rfl, hs a hm, _, rfl, _, rfl, fk_not ⟨fun e => ?_, fun e => ?_⟩⟩
      · walk_at "sv"
        intro y hy
        rcases List.mem_append.mp hy with h | h
        · exact hp y h
        · have : y = a := by simpa using h
          rw [this]
          exact e
      · refine ws_raise (hE _ (q2 (Bool.eq_false_iff.mpr fun h => ?_)))
        have e2 := List.all_eq_true.mp (show xs.all isWordD = true from h) a hm
        exact absurd (e2.symm.trans e) (by decide)
    · obtain ⟨_, hp⟩ := hI
      exact q1 (List.all_eq_true.mpr hp)
  all_goals
    walk_at "sv"
    exact ws_raise (hE _ (q2 rfl))
/-! ### put_word, lines -/
/-- a word more: into the last line, where it has room, else into a new one -/
def putW (w : Int) (fs : List Str) (x : Str) : List Str :=
  match fs.getLast? with
  | none => [x]
  | some l => if (l.length : Int) + 1 + x.length ≤ w then fs.dropLast ++ [l ++ spS ++ x] else fs ++ [x]
theorem putW_nil (w : Int) (x : Str) : putW w [] x = [x] := rfl
theorem putW_in {w : Int} {gs : List Str} {l x : Str} (h : (l.length : Int) + 1 + x.length ≤ w) : putW w (gs ++ [l]) x = gs ++ [l ++ spS ++ x] := by
  unfold putW
  rw [List.getLast?_concat]
  simp only [h, if_true, List.dropLast_concat]
theorem putW_out {w : Int} {gs : List Str} {l x : Str} (h : ¬ (l.length : Int) + 1 + x.length ≤ w) : putW w (gs ++ [l]) x = gs ++ [l] ++ [x] := by
  unfold putW
  rw [List.getLast?_concat]
  simp only [h, if_false]
theorem set_snoc {α : Type} (g : List α) (x y : α) : (g ++ [x]).set g.length y = g ++ [y] := by
  rw [List.set_append_right _ _ (Nat.le_refl _), Nat.sub_self]
  rfl
theorem ixN_snoc {α : Type} (g : List α) (x : α) : ixN (g ++ [x]).length (-1) = some g.length := by
  unfold ixN
  rw [List.length_append, if_neg (by omega), if_pos (by simp only [List.length_cons, List.length_nil]; omega)]
  congr 1
  simp only [List.length_cons, List.length_nil]
  omega
def G_put_word : GF := fun ls Po _ => ∃ (fs : List Str) (x : Str) (w : Int), ls = [.own (fs.map .str), .d (.str x), .d (.int w)] ∧ (fs.length ≤ 10000 ∧ x.length ≤ 10000 ∧ ∀ f, f ∈ fs → f.length ≤ 100000 ∧ PyData.strOk f = true) ∧ ∀ b, Po (.d (.bool b)) ((putW w fs x).map .str)
theorem ok_put_word (T : Txt K mg) : FnOk P w K mg base CX0 1 T.f_put_word T.fd_put_word ["found", "word", "wide"] (SpG K (some 0) G_put_word) := by
  refine T.d_put_word.F.ok sc_put_word (SpG.len (n := 3) fun ls Po Pe h => by obtain ⟨_, _, _, rfl, _⟩ := h; rfl) (fun cdv A outer s H vs Q E hr h => ⟨_, (pss_cons (ps_if (PW.pt (pw_and (pt_cmpR (k_neD K rfl hr.units) (pv 0) (pe_lst pa_nil) (nomark _)) (pw_and1 (pt_cmpR op_le (pe_op (k_plus K) (pe_op (k_plus K) (pe_callB (k_len K) (by rfl) T.b_len PySem.boot_len (pa_cons (pe_ix (k_ix K) (pv 0) (pe_un un_neg pe_int) (fun _ _ => rfl)) pa_nil)) pe_int) (pe_callB (k_len K) (by rfl) T.b_len PySem.boot_len (pa_cons (pv 1) pa_nil))) (pv 2) (nomark _))))) (pss_cons (ps_asg (pe_op (k_plus K) (pe_op (k_plus K) (pe_ix (k_ix K) (pv 0) (pe_un un_neg pe_int) (fun _ _ => rfl)) pe_str) (pv 1)) (pg_sub (pv 0) (pe_un un_neg pe_int) set_list))
 (pss_one (ps_ret pe_bl))) pss_nil)
 (pss_cons (ps_expr (k_bm K rfl PySem.F.plainAttrs_list PySem.F.slot_list_append PySem.F.type_list_append mt_append (pv 0) (pa_cons (pv 1) pa_nil)))
 (pss_one (ps_ret pe_bl)))), rd_of h fun B ls Po Pe hB hG hE => ?_⟩)
  obtain ⟨fs, x, w, rfl, ⟨h1, h2, h3⟩, q⟩ := hG
  show WS B K _ [some (.own (fs.map .str)), some (.d (.str x)), some (.d (.int w))] _
  walk_at "sv"
  refine ⟨ok2O (OkD.strs fun f hf => (h3 f hf).2) OkD.nil, ?_⟩
  rcases snoc_cases fs with rfl | ⟨gs, l, rfl⟩
  · walk_at "sv"
    · first
        | exact q true
        | (refine ⟨by decide, ?_⟩; walk_at "sv"; exact q true)
    · exact absurd rfl hc
  · have hl := h3 l (by simp)
    have e : (gs ++ [l]).map PyData.str = gs.map .str ++ [.str l] := by rw [List.map_append]; rfl
    have gl : atI ((gs ++ [l]).map PyData.str) (-1) = some (.str l) := by rw [e]; exact atI_last _ _
    have sl := spS_len
    walk_at "sv"
    · exact absurd hc (by simp)
    · refine ⟨_, _, _, rfl, rfl, gl, ?_⟩
      refine ⟨by show l.length ≤ 1000000; omega, ?_⟩
      walk_at "sv"
      · refine ⟨_, _, _, rfl, rfl, gl, ?_⟩
        walk_at "sv"
        · show l.length + spS.length ≤ 1000000
          omega
        · show (l ++ spS).length + x.length ≤ 1000000
          rw [app_len]
          omega
        · refine ⟨_, _, _, rfl, rfl, by rw [e]; exact ixN_snoc _ _, ?_⟩
          walk_at "sv"
          have e2 := q false
          rw [putW_in hc, List.map_append] at e2
          show Po _ (((gs ++ [l]).map PyData.str).set (gs.map PyData.str).length _)
          rw [e, set_snoc]
          exact e2
      · refine ⟨by rw [List.length_map]; show _ < 1000000; omega, ?_⟩
        walk_at "sv"
        have e2 := q true
        rw [putW_out hc, List.map_append] at e2
        exact e2
/-! the lines of words -/
def linesW (w : Int) (ws : List Str) : List Str := ws.foldl (putW w) []
theorem linesW_snoc (w : Int) (ws : List Str) (x : Str) : linesW w (ws ++ [x]) = putW w (linesW w ws) x := by
  unfold linesW
  rw [List.foldl_append]
  rfl
theorem putW_mem {w : Int} {fs : List Str} {x f : Str} (h : f ∈ putW w fs x) : f ∈ fs ∨ f = x ∨ ∃ l, l ∈ fs ∧ f = l ++ spS ++ x ∧ (l.length : Int) + 1 + x.length ≤ w := by
  rcases snoc_cases fs with rfl | ⟨gs, l, rfl⟩
  · rw [putW_nil] at h
    exact .inr (.inl (by simpa using h))
  · by_cases c : (l.length : Int) + 1 + x.length ≤ w
    · rw [putW_in c] at h
      rcases List.mem_append.mp h with h | h
      · exact .inl (List.mem_append_left _ h)
      · exact .inr (.inr ⟨l, by simp, by simpa using h, c⟩)
    · rw [putW_out c] at h
      rcases List.mem_append.mp h with h | h
      · exact .inl h
      · exact .inr (.inl (by simpa using h))
theorem putW_len {w : Int} {fs : List Str} {x : Str} : (putW w fs x).length ≤ fs.length + 1 := by
  rcases snoc_cases fs with rfl | ⟨gs, l, rfl⟩
  · rw [putW_nil]; simp
  · by_cases c : (l.length : Int) + 1 + x.length ≤ w
    · rw [putW_in c]; simp
    · rw [putW_out c]; simp
/-- what every line is: not too long, signs as they should be, within the width where each word is -/
structure LineOk (w : Int) (n : Nat) (f : Str) : Prop where
  len : f.length ≤ 13 * n
  ok : PyData.strOk f = true
theorem lines_ok {w : Int} : ∀ {ws : List Str}, (∀ x, x ∈ ws → IsWord x) → ∀ f, f ∈ linesW w ws → LineOk w ws.length f := by
  intro ws
  induction ws using snoc_ind with
  | h0 => intro _ f hf; cases hf
  | hs ws x ih =>
    intro hw f hf
    have hx := hw x (by simp)
    have ih' := ih fun y hy => hw y (List.mem_append_left _ hy)
    rw [linesW_snoc] at hf
    rw [List.length_append]
    simp only [List.length_cons, List.length_nil]
    rcases putW_mem hf with h | rfl | ⟨l, hl, rfl, _⟩
    · exact ⟨by have := (ih' f h).len; omega, (ih' f h).ok⟩
    · exact ⟨by have := hx.2.1; omega, strOk_word hx⟩
    · refine ⟨?_, strOk_app (strOk_app (ih' l hl).ok strOk_sp) (strOk_word hx)⟩
      rw [app_len, app_len, spS_len]
      have := (ih' l hl).len
      have := hx.2.1
      omega
theorem lines_len {w : Int} : ∀ (ws : List Str), (linesW w ws).length ≤ ws.length := by
  intro ws
  induction ws using snoc_ind with
  | h0 => exact Nat.le_refl _
  | hs ws x ih =>
    rw [linesW_snoc, List.length_append]
    exact Nat.le_trans putW_len (Nat.add_le_add_right ih 1)
theorem wordsD_of {ws : List Str} (h : ∀ x, x ∈ ws → IsWord x) : wordsD (.list (ws.map .str)) = true := by
  show (ws.map PyData.str).all isWordD = true
  rw [List.all_map, List.all_eq_true]
  exact fun x hx => isWordD_iff.mpr (h x hx)
def G_lines (aT aR : Addr) : GF := fun ls Po Pe => ∃ (x : PyData) (w : Int), ls = [.d x, .d (.int w)] ∧ shortsD x ∧
  ((wordsD x = false ∧ Pe aT) ∨ ∃ ws : List Str, x = .list (ws.map .str) ∧ (∀ v, v ∈ ws → IsWord v) ∧ ws.length ≤ 700 ∧
    ((∀ v, v ∈ ws → (v.length : Int) ≤ w) → Po (.new ((linesW w ws).map .str)) []) ∧ ((∃ v, v ∈ ws ∧ ¬ (v.length : Int) ≤ w) → Pe aR))
theorem ok_lines (T : Txt K mg) : FnOk P w K mg base (L2.CX P w) 3 T.f_lines T.fd_lines ["words", "wide"] (SpG K none (G_lines T.a_NoTexts T.a_NoRoom)) := by
  refine T.d_lines.F.okX sc_lines (SpG.len (n := 2) fun ls Po Pe h => by obtain ⟨_, _, rfl, _⟩ := h; rfl) (fun cdv A outer s H vs Q E hr h => ⟨_, (pss_cons (ps_expr (pe_call (ok_need_words T) hr (by rfl) T.d_need_words.g T.d_need_words.kp T.d_need_words.b .nil (passes_call (takes_of rfl rfl rfl rfl) fun _ _ _ _ h => h) (pa_cons (pv 0) pa_nil)))
 (pss_cons (ps_setO (i := 2) sc_lines.nd rfl (.inl rfl) (pe_lst pa_nil))
 (pss_cons (ps_for (passes_of rfl) rfl (k_piL K rfl (pv 0)) (pg_name (i := 3) sc_lines.nd rfl (Or.inl rfl)) (pss_cons (ps_if (pt_cmpR op_gt (pe_callB (k_len K) (by rfl) T.b_len PySem.boot_len (pa_cons (pv 3) pa_nil)) (pv 1) (nomark _)) (pss_one (p_raise (takes_of rfl rfl rfl rfl) (pmk_own PySem.F.excBase_ValueError T.NoRoom.x T.NoRoom.g T.NoRoom.k (raises_own T.NoRoom.b T.NoRoom.t) (by exact rfl)))) pss_nil)
 (pss_one (ps_expr (pe_call (ok_put_word T) (hr.mono (by decide)) (by rfl) T.d_put_word.g T.d_put_word.kp T.d_put_word.b .nil pass0 (pa_cons (pv 2) (pa_cons (pv 3) (pa_cons (pv 1) pa_nil))))))))
 (pss_one (ps_ret (pv 2)))))), rd_of h fun B ls Po Pe hB hG hE => ?_⟩)
  obtain ⟨x, w, rfl, hs, q⟩ := hG
  show WS B K _ [some (.d x), some (.d (.int w)), none, none] _
  walk_at "sv"
  refine ⟨_, Pe, rfl, ⟨x, rfl, hs, fun hw => ?_, fun hw => ?_⟩, hE⟩
  · rcases q with ⟨hn, _⟩ | ⟨ws, rfl, hws, hl, q1, q2⟩
    · rw [hn] at hw; cases hw
    walk_at "sv"
    refine ws_forL PyData.str ?_
    walk_at "sv"
    refine ⟨fun pre ρ => (∃ o, ρ = [some (.d (.list (ws.map .str))), some (.d (.int w)), some (.own ((linesW w pre).map .str)), o]) ∧ ∀ v, v ∈ pre → (v.length : Int) ≤ w, ⟨⟨_, rfl⟩, fun c hc => nomatch hc⟩, fun pre a post ρ2 ha hI => ?_, fun ρ2 hI => ?_⟩
    · obtain ⟨⟨o, rfl⟩, hp⟩ := hI
      have hm : a ∈ ws := by rw [ha]; simp
      have hpre : ∀ v, v ∈ pre → IsWord v := fun v hv => hws v (by rw [ha]; exact List.mem_append_left _ hv)
      have hpl : pre.length ≤ 700 := by
        have := congrArg List.length ha
        rw [List.length_append] at this
        omega
      have ha12 := (hws a hm).2.1
      walk_at "sv"
      · exact ws_raise (hE _ (q2 ⟨a, hm, by omega⟩))
      · refine ⟨linesW w pre, a, w, rfl, ⟨Nat.le_trans (lines_len pre) (by omega), by omega, fun f hf => ?_⟩, fun b => ?_⟩
        · have k := lines_ok hpre f hf
          exact ⟨by have := k.len; omega, k.ok⟩
        · refine ⟨⟨_, by rw [linesW_snoc]; rfl⟩, fun v hv => ?_⟩
          rcases List.mem_append.mp hv with h | h
          · exact hp v h
          · have : v = a := by simpa using h
            rw [this]
            omega
    · obtain ⟨⟨o, rfl⟩, hp⟩ := hI
      walk_at "sv"
      exact q1 hp
  · rcases q with ⟨_, h⟩ | ⟨ws, rfl, hws, _⟩
    · exact h
    · rw [wordsD_of hws] at hw; cases hw

/-! ### no breaking into lines has fewer of them -/
def tot (ws : List Str) : Int := (ws.map fun x => (x.length : Int) + 1).sum - 1
theorem tot_nil : tot [] = -1 := rfl
theorem tot_cons (x : Str) (ws : List Str) : tot (x :: ws) = tot ws + 1 + x.length := by
  unfold tot
  rw [List.map_cons, List.sum_cons]
  omega
theorem tot_snoc (ws : List Str) (x : Str) : tot (ws ++ [x]) = tot ws + 1 + x.length := by
  unfold tot
  rw [List.map_append, List.sum_append]
  simp only [List.map_cons, List.map_nil, List.sum_cons, List.sum_nil]
  omega
theorem tot_ge (ws : List Str) : -1 ≤ tot ws := by
  induction ws with
  | nil => exact Int.le_refl _
  | cons x ws ih => rw [tot_cons]; omega
theorem tot_app (a b : List Str) : tot b ≤ tot (a ++ b) := by
  induction a with
  | nil => exact Int.le_refl _
  | cons x a ih =>
    rw [List.cons_append, tot_cons]
    omega
/-- the last line's length -/
def lastL (fs : List Str) : Int := match fs.getLast? with | none => -1 | some l => l.length
theorem lastL_snoc (gs : List Str) (l : Str) : lastL (gs ++ [l]) = l.length := by
  unfold lastL
  rw [List.getLast?_concat]
theorem joined_len (l x : Str) : ((l ++ spS ++ x).length : Int) = l.length + 1 + x.length := by
  rw [app_len, app_len, spS_len]
  omega
theorem seg_most {w : Int} (p : List Str) : ∀ seg : List Str, tot seg ≤ w →
    (linesW w (p ++ seg)).length = (linesW w p).length ∨ ((linesW w (p ++ seg)).length = (linesW w p).length + 1 ∧ lastL (linesW w (p ++ seg)) ≤ tot seg) := by
  intro seg
  induction seg using snoc_ind with
  | h0 => intro _; rw [List.append_nil]; exact .inl rfl
  | hs seg x ih =>
    intro ht
    rw [tot_snoc] at ht ⊢
    have ih' := ih (by omega)
    have t0 := tot_ge seg
    rw [← List.append_assoc, linesW_snoc]
    rcases snoc_cases (linesW w (p ++ seg)) with e | ⟨gs, l, e⟩
    · rw [e] at ih' ⊢
      rw [putW_nil]
      right
      rcases ih' with h | ⟨h, _⟩
      · exact ⟨by rw [← h]; rfl, by rw [show [x] = [] ++ [x] from rfl, lastL_snoc]; omega⟩
      · simp at h
    · rw [e] at ih' ⊢
      by_cases c : (l.length : Int) + 1 + x.length ≤ w
      · rw [putW_in c]
        rw [lastL_snoc] at ih' ⊢
        rcases ih' with h | ⟨h, hl⟩
        · left; rw [← h]; simp
        · right
          exact ⟨by rw [← h]; simp, by rw [joined_len]; omega⟩
      · rw [putW_out c]
        rw [lastL_snoc] at ih' ⊢
        rcases ih' with h | ⟨h, hl⟩
        · right
          exact ⟨by rw [List.length_append, h]; rfl, by omega⟩
        · exact absurd (show (l.length : Int) + 1 + x.length ≤ w by omega) c
theorem seg_last {w : Int} : ∀ ws : List Str, (∀ v, v ∈ ws → (v.length : Int) ≤ w) → ws ≠ [] → ∃ p seg, ws = p ++ seg ∧ seg ≠ [] ∧ tot seg ≤ w ∧ (linesW w p).length + 1 = (linesW w ws).length ∧ lastL (linesW w ws) = tot seg := by
  intro ws
  induction ws using snoc_ind with
  | h0 => intro _ h; exact absurd rfl h
  | hs ws x ih =>
    intro hf _
    have hx := hf x (by simp)
    have hf' : ∀ v, v ∈ ws → (v.length : Int) ≤ w := fun v hv => hf v (List.mem_append_left _ hv)
    have one : tot [x] = x.length := by rw [tot_cons, tot_nil]; omega
    rw [linesW_snoc]
    rcases snoc_cases (linesW w ws) with e | ⟨gs, l, e⟩
    · rw [e, putW_nil]
      exact ⟨ws, [x], rfl, by simp, by rw [one]; exact hx, by rw [e]; rfl, by rw [one, show [x] = [] ++ [x] from rfl, lastL_snoc]⟩
    · by_cases c : (l.length : Int) + 1 + x.length ≤ w
      · have hne : ws ≠ [] := fun z => by subst z; simp [linesW] at e
        obtain ⟨p, seg, hps, hs, ht, hg, hl⟩ := ih hf' hne
        rw [e, lastL_snoc] at hl
        rw [e, putW_in c]
        refine ⟨p, seg ++ [x], by rw [hps, List.append_assoc], by simp, by rw [tot_snoc]; omega, by rw [hg, e]; simp, ?_⟩
        rw [lastL_snoc, joined_len, tot_snoc]
        omega
      · rw [e, putW_out c]
        exact ⟨ws, [x], rfl, by simp, by rw [one]; exact hx, by rw [e]; simp, by rw [one, lastL_snoc]⟩
/-- the first n words' number of lines -/
def gN (w : Int) (ws : List Str) (n : Nat) : Nat := (linesW w (ws.take n)).length
theorem take_split (ws : List Str) {f n : Nat} (h : f ≤ n) : ws.take n = ws.take f ++ (ws.take n).drop f := by
  have e := List.take_append_drop f (ws.take n)
  rw [List.take_take, Nat.min_eq_left h] at e
  exact e.symm
theorem gN_le {w : Int} {ws : List Str} {f n : Nat} (h : f ≤ n) (ht : tot ((ws.take n).drop f) ≤ w) : gN w ws n ≤ gN w ws f + 1 := by
  have k := seg_most (w := w) (ws.take f) ((ws.take n).drop f) ht
  rw [← take_split ws h] at k
  unfold gN
  rcases k with k | ⟨k, _⟩ <;> omega
theorem gN_at {w : Int} {ws : List Str} {n : Nat} (hn : n ≤ ws.length) (h0 : 0 < n) (hf : ∀ v, v ∈ ws → (v.length : Int) ≤ w) : ∃ f, f < n ∧ tot ((ws.take n).drop f) ≤ w ∧ gN w ws f + 1 = gN w ws n := by
  have hl : (ws.take n).length = n := by rw [List.length_take]; omega
  obtain ⟨p, seg, hps, hs, ht, hg, _⟩ := seg_last (w := w) (ws.take n) (fun v hv => hf v (List.mem_of_mem_take hv)) (fun z => by rw [z] at hl; simp at hl; omega)
  have hlen := congrArg List.length hps
  rw [hl, List.length_append] at hlen
  have hsl : 0 < seg.length := List.length_pos_iff.mpr hs
  have hp : p = ws.take p.length := by
    have e := congrArg (List.take p.length) hps
    rw [List.take_left, List.take_take, Nat.min_eq_left (by omega)] at e
    exact e.symm
  refine ⟨p.length, by omega, ?_, ?_⟩
  · rw [hps, List.drop_left]; exact ht
  · unfold gN
    rw [← hp, hg]
theorem tot_drop (ws : List Str) {m n : Nat} (h : m < n) (hn : n ≤ ws.length) : tot ((ws.take n).drop m) = tot ((ws.take n).drop (m + 1)) + 1 + (ws[m]'(by omega)).length := by
  have hl : m < (ws.take n).length := by rw [List.length_take]; omega
  rw [List.drop_eq_getElem_cons hl, tot_cons, List.getElem_take]
theorem tot_mono (ws : List Str) {a b n : Nat} (h : a ≤ b) : tot ((ws.take n).drop b) ≤ tot ((ws.take n).drop a) := by
  have e : (ws.take n).drop a = ((ws.take n).drop a).take (b - a) ++ (ws.take n).drop b := by
    have := (List.take_append_drop (b - a) ((ws.take n).drop a)).symm
    rw [List.drop_drop, show a + (b - a) = b by omega] at this
    exact this
  rw [e]
  exact tot_app _ _
theorem gN_zero (w : Int) (ws : List Str) : gN w ws 0 = 0 := rfl
def leastD (w : Int) (ws : List Str) (n : Nat) : List PyData := (List.range n).map fun (i : Nat) => .int (gN w ws i : Int)
theorem leastD_len {w : Int} {ws : List Str} {n : Nat} : (leastD w ws n).length = n := by unfold leastD; rw [List.length_map, List.length_range]
theorem leastD_at {w : Int} {ws : List Str} {n i : Nat} (h : i < n) : (leastD w ws n)[i]? = some (.int (gN w ws i : Int)) := by
  unfold leastD
  rw [List.getElem?_map, List.getElem?_range h]
  rfl
theorem leastD_snoc {w : Int} {ws : List Str} {n : Nat} : leastD w ws (n + 1) = leastD w ws n ++ [.int (gN w ws n : Int)] := by
  unfold leastD
  rw [List.range_succ, List.map_append]
  rfl
/-! ### the lines put together by blanks are the words put together -/
open TL (joinL tl tl_join join_eq)
theorem joinL_snoc {S x : List Nat} : ∀ {fs : List (List Nat)}, fs ≠ [] → joinL S (fs ++ [x]) = joinL S fs ++ S ++ x
  | [], h => absurd rfl h
  | [p], _ => by simp [joinL]
  | p :: q :: r, _ => by
    have ih := joinL_snoc (S := S) (x := x) (fs := q :: r) (by simp)
    show p ++ (S ++ joinL S ((q :: r) ++ [x])) = (p ++ (S ++ joinL S (q :: r))) ++ S ++ x
    rw [ih]
    simp only [List.append_assoc]
theorem linesW_ne {w : Int} {ws : List Str} (h : ws ≠ []) : linesW w ws ≠ [] := by
  rcases snoc_cases ws with rfl | ⟨g, x, rfl⟩
  · exact absurd rfl h
  · rw [linesW_snoc]
    rcases snoc_cases (linesW w g) with e | ⟨gs, l, e⟩
    · rw [e, putW_nil]; simp
    · rw [e]
      by_cases c : (l.length : Int) + 1 + x.length ≤ w
      · rw [putW_in c]; simp
      · rw [putW_out c]; simp
theorem join_lines {w : Int} : ∀ ws : List Str, joinL (tl spS) ((linesW w ws).map tl) = joinL (tl spS) (ws.map tl) := by
  intro ws
  induction ws using snoc_ind with
  | h0 => rfl
  | hs ws x ih =>
    rw [linesW_snoc, List.map_append]
    by_cases hw : ws = []
    · subst hw
      rfl
    · have hne : ws.map tl ≠ [] := fun z => hw (List.map_eq_nil_iff.mp z)
      rw [List.map_cons, List.map_nil, joinL_snoc hne, ← ih]
      rcases snoc_cases (linesW w ws) with e | ⟨gs, l, e⟩
      · exact absurd e (linesW_ne hw)
      · rw [e]
        by_cases c : (l.length : Int) + 1 + x.length ≤ w
        · rw [putW_in c, List.map_append, List.map_append]
          simp only [List.map_cons, List.map_nil]
          by_cases hg : gs.map tl = []
          · rw [hg]
            show tl (l ++ spS ++ x) = tl l ++ tl spS ++ tl x
            unfold tl
            rw [app_list, app_list]
          · rw [joinL_snoc hg, joinL_snoc hg]
            have e2 : tl (l ++ spS ++ x) = tl l ++ tl spS ++ tl x := by
              unfold tl
              rw [app_list, app_list]
            rw [e2]
            simp only [List.append_assoc]
        · rw [putW_out c, List.map_append (l₁ := gs ++ [l])]
          simp only [List.map_cons, List.map_nil]
          exact joinL_snoc (by simp)
theorem txt_join_lines {w : Int} (ws : List Str) : Txt.join spS (linesW w ws) = Txt.join spS ws := by
  rw [join_eq, join_eq]
  have e := join_lines (w := w) ws
  rw [← tl_join, ← tl_join] at e
  cases h1 : Str.join spS (linesW w ws) with
  | mk a =>
    cases h2 : Str.join spS ws with
    | mk b =>
      rw [h1, h2] at e
      exact congrArg Str.mk (Array.toList_inj.mp e)
theorem sum_le {n : Nat} : ∀ {ws : List Str}, (∀ v, v ∈ ws → v.length ≤ n) → (ws.map (·.length)).sum ≤ n * ws.length
  | [], _ => Nat.le_refl _
  | x :: ws, h => by
    have ih := sum_le (ws := ws) fun v hv => h v (List.mem_cons_of_mem _ hv)
    have hx := h x List.mem_cons_self
    rw [List.map_cons, List.sum_cons, List.length_cons, Nat.mul_succ]
    omega
theorem mem_joinL {S : List Nat} {c : Nat} : ∀ {ps : List (List Nat)}, c ∈ joinL S ps → c ∈ S ∨ ∃ p, p ∈ ps ∧ c ∈ p
  | [], h => by cases h
  | [p], h => .inr ⟨p, List.mem_cons_self, h⟩
  | p :: q :: r, h => by
    rcases List.mem_append.mp (show c ∈ p ++ (S ++ joinL S (q :: r)) from h) with h | h
    · exact .inr ⟨p, List.mem_cons_self, h⟩
    · rcases List.mem_append.mp h with h | h
      · exact .inl h
      · rcases mem_joinL h with h | ⟨p', h1, h2⟩
        · exact .inl h
        · exact .inr ⟨p', List.mem_cons_of_mem _ h1, h2⟩
theorem strOk_join {ws : List Str} (h : ∀ w, w ∈ ws → PyData.strOk w = true) : PyData.strOk (Txt.join spS ws) = true := by
  have hs : ∀ (x : Str), PyData.strOk x = true ↔ ∀ c, c ∈ tl x → c < 0x110000 := fun x => by
    unfold PyData.strOk
    rw [← Array.all_toList, List.all_eq_true]
    exact ⟨fun k c hc => of_decide_eq_true (k c hc), fun k c hc => decide_eq_true (k c hc)⟩
  rw [hs, join_eq, tl_join]
  intro c hc
  rcases mem_joinL hc with h1 | ⟨p, h1, h2⟩
  · exact (hs spS).mp strOk_sp c h1
  · obtain ⟨w, hw, rfl⟩ := List.mem_map.mp h1
    exact (hs w).mp (h w hw) c h2
theorem lines_fit {w : Int} : ∀ {ws : List Str}, (∀ v, v ∈ ws → (v.length : Int) ≤ w) → ∀ f, f ∈ linesW w ws → (f.length : Int) ≤ w := by
  intro ws
  induction ws using snoc_ind with
  | h0 => intro _ f hf; cases hf
  | hs ws x ih =>
    intro hw f hf
    rw [linesW_snoc] at hf
    rcases putW_mem hf with h | rfl | ⟨l, hl, rfl, c⟩
    · exact ih (fun v hv => hw v (List.mem_append_left _ hv)) f h
    · exact hw f (by simp)
    · rw [joined_len]; exact c

/-! ### taken, next_stair, text_stairs -/
def sizD (ws : List Str) : PyData := .list (ws.map fun x => .int (x.length : Int))
def cW (ws : List Str) (w : Int) : Nat := (linesW w ws).length
theorem cW_anti {ws : List Str} {w w' : Int} (h : w ≤ w') (hf : ∀ v, v ∈ ws → (v.length : Int) ≤ w) : cW ws w' ≤ cW ws w := by
  have key : ∀ n, n ≤ ws.length → gN w' ws n ≤ gN w ws n := by
    intro n
    induction n using Nat.strongRecOn with
    | ind n ih =>
      intro hn
      by_cases h0 : n = 0
      · subst h0; exact Nat.le_refl _
      · obtain ⟨f, h1, h2, h3⟩ := gN_at (w := w) (ws := ws) hn (by omega) hf
        have k1 := gN_le (w := w') (ws := ws) (f := f) (n := n) (by omega) (by omega)
        have k2 := ih f h1 (by omega)
        omega
  have e := key ws.length (Nat.le_refl _)
  unfold gN at e
  rw [List.take_length] at e
  exact e
theorem cW_pos {ws : List Str} {w : Int} (h : ws ≠ []) : 1 ≤ cW ws w := List.length_pos_iff.mpr (linesW_ne h)
theorem cW_tot {ws : List Str} {w : Int} (h : ws ≠ []) (ht : tot ws ≤ w) : cW ws w = 1 := by
  have k := gN_le (w := w) (ws := ws) (f := 0) (n := ws.length) (by omega) (by rw [List.take_length]; exact ht)
  unfold gN at k
  rw [List.take_length] at k
  have := cW_pos (w := w) h
  have e0 : (linesW w (ws.take 0)).length = 0 := rfl
  unfold cW at *
  omega
def G_taken : GF := fun ls Po _ => ∃ (ws : List Str) (w : Int), ls = [.d (sizD ws), .d (.int w)] ∧ (ws ≠ [] ∧ ws.length ≤ 700 ∧ ∀ v, v ∈ ws → (v.length : Int) ≤ w) ∧ Po (.d (.int (cW ws w : Int))) []
theorem ok_taken (T : Txt K mg) : FnOk P w K mg base CX0 1 T.f_taken T.fd_taken ["sizes", "wide"] (SpG K none G_taken) := by
  refine T.d_taken.F.ok sc_taken (SpG.len (n := 2) fun ls Po Pe h => by obtain ⟨_, _, rfl, _⟩ := h; rfl) (fun cdv A outer s H vs Q E hr h => ⟨_, (pss_cons (ps_set (i := 2) sc_taken.nd rfl (.inl rfl) pe_int)
 (pss_cons (ps_set (i := 3) sc_taken.nd rfl (.inl rfl) (pe_un un_neg pe_int))
 (pss_cons (ps_for PassesOwn.never rfl (k_piL K rfl (pv 0)) (pg_name (i := 4) sc_taken.nd rfl (Or.inl rfl)) (pss_cons (ps_if (pt_cmpR op_gt (pe_op (k_plus K) (pe_op (k_plus K) (pv 3) pe_int) (pv 4)) (pv 1) (nomark _)) (pss_cons (ps_aug (i := 2) sc_taken.nd rfl (.inl rfl) pe_int ip_add)
 (pss_one (ps_set (i := 3) sc_taken.nd rfl (.inl rfl) (pe_un un_neg pe_int)))) pss_nil)
 (pss_one (ps_aug (i := 3) sc_taken.nd rfl (.inl rfl) (pe_op (k_plus K) pe_int (pv 4)) ip_add))))
 (pss_one (ps_ret (pv 2)))))), rd_of h fun B ls Po Pe hB hG hE => ?_⟩)
  obtain ⟨ws, w, rfl, ⟨hne, hl, hf⟩, q⟩ := hG
  show WS B K _ [some (.d (.list (ws.map fun x => .int (x.length : Int)))), some (.d (.int w)), none, none, none] _
  walk_at "sv"
  refine ws_forL (fun x : Str => PyData.int (x.length : Int)) ?_
  walk_at "sv"
  refine ⟨fun pre ρ => ∃ (m : Nat) (o : Option L), ρ = [some (.d (.list (ws.map fun x => .int (x.length : Int)))), some (.d (.int w)), some (.d (.int (m : Int))), some (.d (.int (lastL (linesW w pre)))), o] ∧ ((pre = [] ∧ m = 1) ∨ (pre ≠ [] ∧ m = (linesW w pre).length)), ⟨1, none, rfl, .inl ⟨rfl, rfl⟩⟩, fun pre a post ρ2 ha hI => ?_, fun ρ2 hI => ?_⟩
  · obtain ⟨m, o, rfl, hm⟩ := hI
    have haf := hf a (by rw [ha]; simp)
    rcases snoc_cases (linesW w pre) with e | ⟨g, l, e⟩
    · have hp : pre = [] := Classical.byContradiction fun z => linesW_ne z e
      have hm1 : m = 1 := by rcases hm with h | h; exact h.2; exact absurd hp h.1
      have el : lastL (linesW w pre) = -1 := by rw [e]; rfl
      rw [el]
      walk_at "sv"
      all_goals first | (exfalso; omega) | skip
      refine ⟨m, some (.d (.int (a.length : Int))), ?_, .inr ⟨by simp, ?_⟩⟩
      · rw [linesW_snoc, e, putW_nil, show [a] = [] ++ [a] from rfl, lastL_snoc, show (-1 : Int) + (1 + (a.length : Int)) = a.length by omega]
        rfl
      · rw [linesW_snoc, e, putW_nil, hm1]
        rfl
    · have hp : pre ≠ [] := fun z => by subst z; simp [linesW] at e
      have hm1 : m = (linesW w pre).length := by rcases hm with h | h; exact absurd h.1 hp; exact h.2
      have el : lastL (linesW w pre) = l.length := by rw [e, lastL_snoc]
      rw [el]
      walk_at "sv"
      · refine ⟨m + 1, some (.d (.int (a.length : Int))), ?_, .inr ⟨by simp, ?_⟩⟩
        · rw [linesW_snoc, e, putW_out (by omega), lastL_snoc, show (-1 : Int) + (1 + (a.length : Int)) = a.length by omega]
          rfl
        · rw [linesW_snoc, hm1, e, putW_out (by omega)]
          simp
      · refine ⟨m, some (.d (.int (a.length : Int))), ?_, .inr ⟨by simp, ?_⟩⟩
        · rw [linesW_snoc, e, putW_in (by omega), lastL_snoc, joined_len, show (l.length : Int) + (1 + (a.length : Int)) = l.length + 1 + a.length by omega]
          rfl
        · rw [linesW_snoc, hm1, e, putW_in (by omega)]
          simp
  · obtain ⟨m, o, rfl, hm⟩ := hI
    walk_at "sv"
    rcases hm with h | h
    · exact absurd h.1 hne
    · rw [h.2]
      exact q
def G_next_stair : GF := fun ls Po _ => ∃ (ws : List Str) (wide : Int) (many : Int) (whole : Int), ls = [.d (sizD ws), .d (.int wide), .d (.int many), .d (.int whole)] ∧ (ws ≠ [] ∧ ws.length ≤ 700 ∧ (∀ v, v ∈ ws → (v.length : Int) ≤ wide) ∧ wide < whole ∧ (cW ws whole : Int) < many) ∧
  ∀ r : Int, wide < r → r ≤ whole → (cW ws r : Int) < many → (∀ u, wide < u → u < r → many ≤ (cW ws u : Int)) → Po (.d (.int r)) []
theorem ok_next_stair (T : Txt K mg) : FnOk P w K mg base CX0 2 T.f_next_stair T.fd_next_stair ["sizes", "wide", "many", "whole"] (SpG K none G_next_stair) := by
  refine T.d_next_stair.F.ok sc_next_stair (SpG.len (n := 4) fun ls Po Pe h => by obtain ⟨_, _, _, _, rfl, _⟩ := h; rfl) (fun cdv A outer s H vs Q E hr h => ⟨_, (pss_cons (ps_while PassesOwn.never (pt_cmpR op_gt (pe_op op_sub (pv 3) (pv 1)) pe_int (nomark _)) (pss_cons (ps_set (i := 4) sc_next_stair.nd rfl (.inl rfl) (pe_op op_fdivN (pe_op (k_plus K) (pv 1) (pv 3)) pe_int))
 (pss_one (ps_if (pt_cmpR op_lt (pe_call (ok_taken T) hr (by rfl) T.d_taken.g T.d_taken.kp T.d_taken.b .nil pass0 (pa_cons (pv 0) (pa_cons (pv 4) pa_nil))) (pv 2) (nomark _)) (pss_one (ps_set (i := 3) sc_next_stair.nd rfl (.inl rfl) (pv 4))) (pss_one (ps_set (i := 1) sc_next_stair.nd rfl (.inl rfl) (pv 4)))))))
 (pss_one (ps_ret (pv 3)))), rd_of h fun B ls Po Pe hB hG hE => ?_⟩)
  obtain ⟨ws, wide, many, whole, rfl, ⟨hne, hl, hf, hww, hcw⟩, q⟩ := hG
  show WS B K _ [some (.d (sizD ws)), some (.d (.int wide)), some (.d (.int many)), some (.d (.int whole)), none] _
  walk_at "sv"
  refine ws_while (fun k ρ => ∃ (a b : Int) (o : Option L), ρ = [some (.d (sizD ws)), some (.d (.int a)), some (.d (.int many)), some (.d (.int b)), o] ∧ (b - a).toNat = k ∧ (wide ≤ a ∧ a < b ∧ b ≤ whole) ∧ (cW ws b : Int) < many ∧ ∀ u, wide < u → u ≤ a → many ≤ (cW ws u : Int)) ⟨(whole - wide).toNat, wide, whole, none, rfl, rfl, ⟨by omega, hww, by omega⟩, hcw, fun u h1 h2 => by omega⟩ fun k ρ1 hW => ?_
  obtain ⟨a, b, o, rfl, hk, ⟨h1, h2, h3⟩, h4, h5⟩ := hW
  walk_at "sv"
  · refine ⟨ws, (a + b) / 2, rfl, ⟨hne, hl, fun v hv => by have := hf v hv; omega⟩, ?_⟩
    walk_at "sv"
    · exact ⟨((a + b) / 2 - a).toNat, by omega, a, (a + b) / 2, _, rfl, rfl, ⟨h1, by omega, by omega⟩, hc, h5⟩
    · refine ⟨(b - (a + b) / 2).toNat, by omega, (a + b) / 2, b, _, rfl, rfl, ⟨by omega, by omega, h3⟩, h4, fun u u1 u2 => ?_⟩
      have := cW_anti (ws := ws) (w := u) (w' := (a + b) / 2) (by omega) fun v hv => by have := hf v hv; omega
      omega
  · exact q b (by omega) h3 h4 fun u u1 u2 => h5 u u1 (by omega)

/-! ### text_stairs -/
def stD (p : Int × Nat) : PyData := .tuple [.int p.1, .int (p.2 : Int)]
/-- the drops of c from lo on, n places long -/
def dueL (c : Int → Nat) (lo : Int) : Nat → List (Int × Nat)
  | 0 => []
  | n + 1 => match (dueL c lo n).getLast? with
    | none => [(lo + n, c (lo + n))]
    | some l => if c (lo + n) < l.2 then dueL c lo n ++ [(lo + n, c (lo + n))] else dueL c lo n
theorem dueL_skip {c : Int → Nat} {lo : Int} {g : List (Int × Nat)} {l : Int × Nat} {n : Nat} (h : dueL c lo n = g ++ [l]) : ∀ j : Nat, (∀ u : Int, lo + n ≤ u → u < lo + n + j → l.2 ≤ c u) → dueL c lo (n + j) = g ++ [l]
  | 0, _ => h
  | j + 1, hu => by
    have ih := dueL_skip h j fun u h1 h2 => hu u h1 (by omega)
    show (match (dueL c lo (n + j)).getLast? with | none => [(lo + ((n + j : Nat) : Int), c (lo + ((n + j : Nat) : Int)))] | some l => if c (lo + ((n + j : Nat) : Int)) < l.2 then dueL c lo (n + j) ++ [(lo + ((n + j : Nat) : Int), c (lo + ((n + j : Nat) : Int)))] else dueL c lo (n + j)) = _
    rw [ih, List.getLast?_concat]
    have := hu (lo + ((n + j : Nat) : Int)) (by omega) (by omega)
    simp only [show ¬ c (lo + ((n + j : Nat) : Int)) < l.2 by omega, if_false]
theorem dueL_drop {c : Int → Nat} {lo : Int} {g : List (Int × Nat)} {l : Int × Nat} {n : Nat} (h : dueL c lo n = g ++ [l]) (hd : c (lo + n) < l.2) : dueL c lo (n + 1) = g ++ [l] ++ [(lo + n, c (lo + n))] := by
  show (match (dueL c lo n).getLast? with | none => [(lo + (n : Int), c (lo + n))] | some l => if c (lo + n) < l.2 then dueL c lo n ++ [(lo + (n : Int), c (lo + n))] else dueL c lo n) = _
  rw [h, List.getLast?_concat]
  simp only [hd, if_true]
theorem dueL_len (c : Int → Nat) (lo : Int) : ∀ n, (dueL c lo n).length ≤ n
  | 0 => Nat.le_refl _
  | n + 1 => by
    have ih := dueL_len c lo n
    unfold dueL
    split
    · simp
    · split
      · rw [List.length_append]; simp only [List.length_cons, List.length_nil]; omega
      · omega
def IsMax (ws : List Str) (m : Int) : Prop := (∃ v, v ∈ ws ∧ (v.length : Int) = m) ∧ ∀ v, v ∈ ws → (v.length : Int) ≤ m
theorem IsMax.eq {ws : List Str} {m k : Int} (h : IsMax ws m) (h' : IsMax ws k) : m = k := by
  obtain ⟨⟨v, hv, e⟩, a⟩ := h
  obtain ⟨⟨u, hu, e'⟩, b⟩ := h'
  have := a u hu
  have := b v hv
  omega
theorem tot_len {ws : List Str} : ∀ {v : Str}, v ∈ ws → (v.length : Int) ≤ tot ws := by
  induction ws with
  | nil => intro v hv; cases hv
  | cons x ws ih =>
    intro v hv
    rw [tot_cons]
    have := tot_ge ws
    rcases List.mem_cons.mp hv with h | h
    · rw [h]; omega
    · have := ih h; omega
theorem tot_sum (ws : List Str) : (ws.map fun x => (x.length : Int)).sum + (ws.length : Int) - 1 = tot ws := by
  induction ws with
  | nil => rfl
  | cons x ws ih =>
    rw [tot_cons, List.map_cons, List.sum_cons, List.length_cons, ← ih]
    omega
theorem tot_le {ws : List Str} (h : ∀ v, v ∈ ws → v.length ≤ 12) : tot ws + 1 ≤ 13 * (ws.length : Int) := by
  induction ws with
  | nil => rw [tot_nil]; simp
  | cons x ws ih =>
    have := ih fun v hv => h v (List.mem_cons_of_mem _ hv)
    have := h x List.mem_cons_self
    rw [tot_cons, List.length_cons]
    omega
/-- the stairs up to the first whose width is w -/
def dueW (ws : List Str) (m w : Int) : List (Int × Nat) := dueL (cW ws) m (w - m + 1).toNat
def G_text_stairs (aT : Addr) : GF := fun ls Po Pe => ∃ x : PyData, ls = [.d x] ∧ shortsD x ∧
  ((wordsD x = false ∧ Pe aT) ∨ ∃ ws : List Str, x = .list (ws.map .str) ∧ (∀ v, v ∈ ws → IsWord v) ∧ ws.length ≤ 700 ∧
    (ws = [] → Po (.new [stD (1, 1)]) []) ∧ (ws ≠ [] → ∀ m, IsMax ws m → Po (.new ((dueW ws m (tot ws)).map stD)) []))
theorem ok_text_stairs (T : Txt K mg) : FnOk P w K mg base (L2.CX P w) 3 T.f_text_stairs T.fd_text_stairs ["words"] (SpG K none (G_text_stairs T.a_NoTexts)) := by
  refine T.d_text_stairs.F.okX sc_text_stairs (SpG.len (n := 1) fun ls Po Pe h => by obtain ⟨_, rfl, _⟩ := h; rfl) (fun cdv A outer s H vs Q E hr h => ⟨_, (pss_cons (ps_expr (pe_call (ok_need_words T) hr (by rfl) T.d_need_words.g T.d_need_words.kp T.d_need_words.b .nil (passes_call (takes_of rfl rfl rfl rfl) fun _ _ _ _ h => h) (pa_cons (pv 0) pa_nil)))
 (pss_cons (ps_if (pt_cmpR (k_eqD K rfl hr.units) (pv 0) (pe_lst pa_nil) (nomark _)) (pss_one (ps_ret (pe_lst (pa_cons (pe_tup (pa_cons pe_int (pa_cons pe_int pa_nil))) pa_nil)))) pss_nil)
 (pss_cons (ps_setLc (i := 1) (own := [("word", 2)]) (g := _) (tt := _) rfl sc_text_stairs.nd rfl rfl (sw_true rfl rfl rfl (by decide +kernel)) (k_piL K rfl (pv 0)) (blkOk_by (N := N_text_stairs) (sc := defScope s_text_stairs) (by decide +kernel)) (fun _ _ _ _ _ => (pg_name (i := 2) sc_text_stairs.nd rfl (Or.inl rfl))) (fun _ _ _ _ _ => pts_nil) (fun _ _ _ _ _ => (pe_callB (k_len K) (by rfl) T.b_len PySem.boot_len (pa_cons (pv 2) pa_nil))))
 (pss_cons (ps_set (i := 3) sc_text_stairs.nd rfl (.inl rfl) (pe_op op_sub (pe_op (k_plus K) (pe_callB (k_sum K rfl rfl) (by rfl) T.b_sum (by decide +kernel) (pa_cons (pv 1) pa_nil)) (pe_callB (k_len K) (by rfl) T.b_len PySem.boot_len (pa_cons (pv 1) pa_nil))) pe_int))
 (pss_cons (ps_setO (i := 4) sc_text_stairs.nd rfl (.inl rfl) (pe_lst (pa_cons (pe_tup (pa_cons (pe_callB (k_max K rfl rfl) (by rfl) T.b_max (by decide +kernel) (pa_cons (pv 1) pa_nil)) (pa_cons (pe_call (ok_taken T) (hr.mono (by decide)) (by rfl) T.d_taken.g T.d_taken.kp T.d_taken.b .nil pass0 (pa_cons (pv 1) (pa_cons (pe_callB (k_max K rfl rfl) (by rfl) T.b_max (by decide +kernel) (pa_cons (pv 1) pa_nil)) pa_nil))) pa_nil))) pa_nil)))
 (pss_cons (ps_while (passes_of rfl) (pt_cmpR op_gt (pe_ix (k_ix K) (pe_ix (k_ix K) (pv 4) (pe_un un_neg pe_int) (fun _ _ => rfl)) pe_int (fun _ _ => rfl)) pe_int (nomark _)) (pss_cons (ps_set (i := 5) sc_text_stairs.nd rfl (.inl rfl) (pe_call (ok_next_stair T) hr (by rfl) T.d_next_stair.g T.d_next_stair.kp T.d_next_stair.b .nil pass0 (pa_cons (pv 1) (pa_cons (pe_ix (k_ix K) (pe_ix (k_ix K) (pv 4) (pe_un un_neg pe_int) (fun _ _ => rfl)) pe_int (fun _ _ => rfl)) (pa_cons (pe_ix (k_ix K) (pe_ix (k_ix K) (pv 4) (pe_un un_neg pe_int) (fun _ _ => rfl)) pe_int (fun _ _ => rfl)) (pa_cons (pv 3) pa_nil))))))
 (pss_one (ps_expr (k_bm K rfl PySem.F.plainAttrs_list PySem.F.slot_list_append PySem.F.type_list_append mt_append (pv 4) (pa_cons (pe_tup (pa_cons (pv 5) (pa_cons (pe_call (ok_taken T) (hr.mono (by decide)) (by rfl) T.d_taken.g T.d_taken.kp T.d_taken.b .nil pass0 (pa_cons (pv 1) (pa_cons (pv 5) pa_nil))) pa_nil))) pa_nil))))))
 (pss_one (ps_ret (pv 4))))))))), rd_of h fun B ls Po Pe hB hG hE => ?_⟩)
  obtain ⟨x, rfl, hs, q⟩ := hG
  show WS B K _ [some (.d x), none, none, none, none, none] _
  walk_at "sn"
  refine ⟨_, Pe, rfl, ⟨x, rfl, hs, fun hw => ?_, fun hw => ?_⟩, hE⟩
  · rcases q with ⟨hn, _⟩ | ⟨ws, rfl, hws, hl, q0, q1⟩
    · rw [hn] at hw; cases hw
    have hok : ∀ v, v ∈ ws → PyData.strOk v = true := fun v hv => strOk_word (hws v hv)
    have h12 : ∀ v, v ∈ ws → v.length ≤ 12 := fun v hv => (hws v hv).2.1
    walk_at "sv"
    · have e : ws = [] := by cases ws with
        | nil => rfl
        | cons a b => cases hc
      exact q0 e
    · have hne : ws ≠ [] := fun z => by subst z; exact absurd rfl hc
      refine wd_e (we_lcL PyData.str (fun (x : Str) o => o = some (.int (x.length : Int))) (.name 2) ?_)
      walk_at "sv"
      refine ⟨fun a ha B' hB' => ?_, fun ys hy2 => ?_⟩
      · walk_at "sv"
        exact ⟨by have := h12 a ha; show _ ≤ 1000000; omega, rfl⟩
      have e2 := Sel.map (f := fun x : Str => PyData.int (x.length : Int)) hy2
      subst e2
      have emap : ws.map (fun x : Str => PyData.int (x.length : Int)) = (ws.map fun x : Str => (x.length : Int)).map .int := by rw [List.map_map]; rfl
      have maxok : ∀ m : Int, m ∈ (ws.map fun x : Str => (x.length : Int)) → (∀ y, y ∈ (ws.map fun x : Str => (x.length : Int)) → y ≤ m) → IsMax ws m := fun m h1 h2 => by
        obtain ⟨v, hv, e⟩ := List.mem_map.mp h1
        exact ⟨⟨v, hv, e⟩, fun u hu => h2 _ (List.mem_map.mpr ⟨u, hu, rfl⟩)⟩
      have hlen0 : 0 < (ws.map fun x : Str => (x.length : Int)).length := by rw [List.length_map]; exact List.length_pos_iff.mpr hne
      walk_at "sn"
      refine wd_sum ?_
      walk_at "sn"
      refine ⟨ws.map fun x : Str => (x.length : Int), by rw [emap], ?_⟩
      walk_at "sn"
      rw [tot_sum]
      refine wd_maxL ?_
      walk_at "sn"
      refine ⟨ws.map fun x : Str => (x.length : Int), by rw [emap], hlen0, fun m hm1 hm2 => ?_⟩
      have hM := maxok m hm1 hm2
      walk_at "sn"
      refine wd_maxL ?_
      walk_at "sn"
      refine ⟨ws.map fun x : Str => (x.length : Int), by rw [emap], hlen0, fun m2 hn1 hn2 => ?_⟩
      have hM2 := hM.eq (maxok m2 hn1 hn2)
      subst hM2
      walk_at "sn"
      refine ⟨ws, m, rfl, ⟨hne, hl, hM.2⟩, ?_⟩
      walk_at "sn"
      have hMt : m ≤ tot ws := by
        obtain ⟨v, hv, e⟩ := hM.1
        have := tot_len hv
        omega
      refine ws_while (fun k ρ => ∃ (g : List (Int × Nat)) (l : Int × Nat) (o5 : Option L), ρ = [some (.d (.list (ws.map .str))), some (.d (sizD ws)), none, some (.d (.int (tot ws))), some (.own (g.map stD ++ [stD l])), o5] ∧ k = l.2 ∧ dueW ws m l.1 = g ++ [l] ∧ (m ≤ l.1 ∧ l.1 ≤ tot ws) ∧ l.2 = cW ws l.1) ⟨_, [], (m, cW ws m), none, rfl, rfl, ?_, ⟨Int.le_refl _, hMt⟩, rfl⟩ fun k ρ1 hW => ?_
      · unfold dueW
        rw [show (m - m + 1).toNat = 0 + 1 by omega]
        show [(m + ((0 : Nat) : Int), cW ws (m + ((0 : Nat) : Int)))] = _
        rw [show m + ((0 : Nat) : Int) = m by omega]
        rfl
      · obtain ⟨g, l, o5, rfl, rfl, hd, ⟨hl1, hl2⟩, hl3⟩ := hW
        have gl : atI (g.map stD ++ [stD l]) (-1) = some (stD l) := atI_last _ _
        have hfl : ∀ v, v ∈ ws → (v.length : Int) ≤ l.1 := fun v hv => by have := hM.2 v hv; omega
        have hgl : g.length + 1 ≤ 13 * 700 := by
          have k1 := dueL_len (cW ws) m (l.1 - m + 1).toNat
          have k2 := tot_le h12
          have k3 : 0 ≤ m := by obtain ⟨v, hv, e⟩ := hM.1; omega
          rw [show dueL (cW ws) m (l.1 - m + 1).toNat = g ++ [l] from hd, List.length_append] at k1
          simp only [List.length_cons, List.length_nil] at k1
          omega
        walk_at "sn"
        refine ⟨_, -1, _, rfl, rfl, gl, ?_⟩
        walk_at "sn"
        · have hlt : l.1 < tot ws := Int.not_le.mp fun z => by have := cW_tot hne z; omega
          refine ⟨_, -1, _, rfl, rfl, gl, ?_⟩
          walk_at "sn"
          refine ⟨_, -1, _, rfl, rfl, gl, ?_⟩
          walk_at "sn"
          refine ⟨ws, l.1, (l.2 : Int), tot ws, rfl, ⟨hne, hl, hfl, hlt, by rw [cW_tot hne (Int.le_refl _)]; exact hc⟩, fun r r1 r2 r3 r4 => ?_⟩
          walk_at "sn"
          refine ⟨ws, r, rfl, ⟨hne, hl, fun v hv => by have := hfl v hv; omega⟩, ?_⟩
          walk_at "sn"
          try (refine ⟨by rw [List.length_append, List.length_map]; show _ < 1000000; simp only [List.length_cons, List.length_nil]; omega, ?_⟩)
          have hrd : dueW ws m r = g ++ [l] ++ [(r, cW ws r)] := by
            have s1 := dueL_skip (c := cW ws) (lo := m) (n := (l.1 - m + 1).toNat) hd (r - l.1 - 1).toNat fun u u1 u2 => by have := r4 u (by omega) (by omega); omega
            have s2 := dueL_drop s1 (by rw [show m + (((l.1 - m + 1).toNat + (r - l.1 - 1).toNat : Nat) : Int) = r by omega]; omega)
            rw [show m + (((l.1 - m + 1).toNat + (r - l.1 - 1).toNat : Nat) : Int) = r by omega] at s2
            unfold dueW
            rw [show (r - m + 1).toNat = (l.1 - m + 1).toNat + (r - l.1 - 1).toNat + 1 by omega]
            exact s2
          refine ⟨cW ws r, by omega, g ++ [l], (r, cW ws r), some (.d (.int r)), ?_, rfl, hrd, ⟨by omega, r2⟩, rfl⟩
          rw [List.map_append]
          rfl
        · walk_at "sn"
          have s1 := dueL_skip (c := cW ws) (lo := m) (n := (l.1 - m + 1).toNat) hd (tot ws - l.1).toNat fun u u1 u2 => by have := cW_pos (ws := ws) (w := u) hne; omega
          have k := q1 hne m hM
          unfold dueW at k
          rw [show (tot ws - m + 1).toNat = (l.1 - m + 1).toNat + (tot ws - l.1).toNat by omega, s1, List.map_append] at k
          exact k
  · rcases q with ⟨_, h⟩ | ⟨ws, rfl, hws, _⟩
    · exact h
    · rw [wordsD_of hws] at hw; cases hw

/-! ### is_whole, _law_whole -/
def isW : PyData → Bool
  | .int _ => true
  | _ => false
def G_whole : GF := fun ls Po _ => ∃ x, ls = [.d x] ∧ Po (.d (.bool (isW x))) []
theorem ok_is_whole (T : Txt K mg) : FnOk P w K mg base CX0 1 T.f_is_whole T.fd_is_whole ["thing"] (SpG K none G_whole) := by
  refine T.d_is_whole.F.ok sc_is_whole (SpG.len (n := 1) fun ls Po Pe h => by obtain ⟨_, rfl, _⟩ := h; rfl) (fun cdv A outer s H vs Q E hr h => ⟨_, (pss_one (ps_ret (pe_and (pe_callB (k_isi K) (by rfl) T.b_isinstance (by decide +kernel) (pa_cons (pv 0) (pa_cons (pe_bltn (v := .ty "int") (by rfl) T.b_int (by decide +kernel) rfl) pa_nil))) (pe_one (pe_not (pe_callB (k_isi K) (by rfl) T.b_isinstance (by decide +kernel) (pa_cons (pv 0) (pa_cons (pe_bltn (v := .ty "bool") (by rfl) T.b_bool (by decide +kernel) rfl) pa_nil)))))))), rd_of h fun B ls Po Pe hB hG hE => ?_⟩)
  obtain ⟨x, rfl, q⟩ := hG
  show WS B K _ [some (.d x)] _
  cases x <;> (walk_at "sv"; exact q)

/-! ### lists -/
theorem nodup_len : ∀ {n : Nat} {ns : List Int}, ns.Nodup → (∀ z, z ∈ ns → 0 ≤ z ∧ z < n) → ns.length ≤ n
  | 0, [], _, _ => Nat.le_refl _
  | 0, z :: ns, _, h => by have := h z List.mem_cons_self; omega
  | n + 1, ns, hd, h => by
    have k := nodup_len (n := n) (ns := ns.erase (n : Int)) (hd.erase _) fun z hz => by
      have k1 := h z (List.mem_of_mem_erase hz)
      have k2 : z ≠ (n : Int) := fun e => by
        rw [e, hd.mem_erase_iff] at hz
        exact hz.1 rfl
      omega
    rw [List.length_erase] at k
    split at k <;> omega


theorem putKs_ints (kz : List Int) (z : Int) : putKs (kz.map Sum.inl) (Sum.inl z) = (if z ∈ kz then kz else kz ++ [z]).map Sum.inl := by
  unfold putKs
  by_cases c : z ∈ kz
  · rw [if_pos c, if_pos (List.mem_map.mpr ⟨z, c, rfl⟩)]
  · rw [if_neg c, if_neg fun k => by
      obtain ⟨u, hu, e⟩ := List.mem_map.mp k
      injection e with e
      exact c (e ▸ hu)]
    rw [List.map_append]
    rfl
theorem putKs_nodup {kz : List Int} {z : Int} (h : kz.Nodup) : (if z ∈ kz then kz else kz ++ [z]).Nodup := by
  by_cases c : z ∈ kz
  · rw [if_pos c]; exact h
  · rw [if_neg c]
    refine List.nodup_append.mpr ⟨h, List.nodup_cons.mpr ⟨(fun k => nomatch k), List.nodup_nil⟩, fun a ha b hb e => ?_⟩
    rw [List.mem_singleton.mp hb] at e
    exact c (e ▸ ha)
theorem putKs_mem {kz : List Int} {z u : Int} : u ∈ (if z ∈ kz then kz else kz ++ [z]) ↔ u ∈ kz ∨ u = z := by
  by_cases c : z ∈ kz
  · rw [if_pos c]
    exact ⟨.inl, fun k => k.elim id fun e => e ▸ c⟩
  · rw [if_neg c]
    simp

/-! ### trees as data: the numbers that a walk comes to -/
def barS : Str := Str.ofString "|"
def dashS : Str := Str.ofString "-"
def goodK (ab k : Str) (n : Nat) : Bool := decide ((k = barS ∨ k = dashS) ∧ k ≠ ab ∧ 2 ≤ n)
/-- what a knot has: its kind and its parts -/
def knot : PyData → Option (Str × List PyData)
  | .tuple [.str k, .tuple ps] => some (k, ps)
  | _ => none
mutual
def numT : Str → PyData → Option (List Int)
  | ab, .tuple [.str k, .tuple ps] => if goodK ab k ps.length then numTs k ps else none
  | _, .int i => some [i]
  | _, _ => none
def numTs : Str → List PyData → Option (List Int)
  | _, [] => some []
  | k, p :: ps => (numTs k ps).bind fun a => (numT k p).map fun b => a ++ b
end
mutual
def nodes : PyData → Nat
  | .tuple xs => 1 + nodess xs
  | .list xs => 1 + nodess xs
  | _ => 1
def nodess : List PyData → Nat
  | [] => 0
  | x :: xs => nodes x + nodess xs
end
theorem nodes_tup (xs : List PyData) : nodes (.tuple xs) = 1 + nodess xs := by unfold nodes; rfl
theorem nodes_lst (xs : List PyData) : nodes (.list xs) = 1 + nodess xs := by unfold nodes; rfl
theorem nodess_nil : nodess [] = 0 := by unfold nodess; rfl
theorem nodess_cons (x : PyData) (xs : List PyData) : nodess (x :: xs) = nodes x + nodess xs := by rw [nodess]
theorem nodess_app (xs ys : List PyData) : nodess (xs ++ ys) = nodess xs + nodess ys := by
  induction xs with
  | nil => rw [nodess_nil, Nat.zero_add]; rfl
  | cons x xs ih => rw [List.cons_append, nodess_cons, nodess_cons, ih, Nat.add_assoc]
theorem nodes_pos (x : PyData) : 1 ≤ nodes x := by cases x <;> (unfold nodes; omega)
theorem nodess_len (xs : List PyData) : xs.length ≤ nodess xs := by
  induction xs with
  | nil => exact Nat.zero_le _
  | cons x xs ih => rw [nodess_cons, List.length_cons]; have := nodes_pos x; omega
theorem numT_int (ab : Str) (i : Int) : numT ab (.int i) = some [i] := by unfold numT; rfl
theorem numT_knot (ab k : Str) (ps : List PyData) : numT ab (.tuple [.str k, .tuple ps]) = if goodK ab k ps.length then numTs k ps else none := by rw [numT]
theorem numT_none {ab : Str} {x : PyData} (h1 : ∀ i, x ≠ .int i) (h2 : knot x = none) : numT ab x = none := by
  unfold numT
  split
  · cases h2
  · exact absurd rfl (h1 _)
  · rfl
theorem numTs_nil (k : Str) : numTs k [] = some [] := by rw [numTs]
theorem numTs_cons (k : Str) (p : PyData) (ps : List PyData) : numTs k (p :: ps) = (numTs k ps).bind fun a => (numT k p).map fun b => a ++ b := by rw [numTs]
/-- a pile: what is popped last stands ahead -/
def numP : List (PyData × Str) → Option (List Int)
  | [] => some []
  | p :: ps => (numP ps).bind fun a => (numT p.2 p.1).map fun b => a ++ b
theorem numP_parts (k : Str) : ∀ ps : List PyData, numP (ps.map fun p => (p, k)) = numTs k ps
  | [] => (numTs_nil k).symm
  | p :: ps => by
    rw [numTs_cons, ← numP_parts k ps]
    rfl
theorem numP_app (xs ys : List (PyData × Str)) : numP (xs ++ ys) = (numP ys).bind fun a => (numP xs).map fun b => a ++ b := by
  induction xs with
  | nil =>
    show numP ys = (numP ys).bind fun a => some (a ++ [])
    cases numP ys with
    | none => rfl
    | some a => show some a = some (a ++ []); rw [List.append_nil]
  | cons x xs ih =>
    rw [List.cons_append]
    show (numP (xs ++ ys)).bind _ = (numP ys).bind fun a => ((numP xs).bind fun a => (numT x.2 x.1).map fun b => a ++ b).map fun b => a ++ b
    rw [ih]
    cases numP ys with
    | none => rfl
    | some a =>
      cases numP xs with
      | none => rfl
      | some b =>
        cases numT x.2 x.1 with
        | none => rfl
        | some c => show some (a ++ b ++ c) = some (a ++ (b ++ c)); rw [List.append_assoc]
theorem numP_pop (pre : List (PyData × Str)) (x : PyData) (ab : Str) : numP (pre ++ [(x, ab)]) = (numT ab x).bind fun a => (numP pre).map fun b => a ++ b := by
  rw [numP_app]
  congr 1
  show (some []).bind (fun a => (numT ab x).map fun b => a ++ b) = numT ab x
  cases numT ab x <;> rfl
/-- a tree of 1 to 24 boxes, numbered from 0, each once -/
def GoodNs (ns : List Int) : Prop := ns.Nodup ∧ ∀ n, n ∈ ns → 0 ≤ n ∧ n < 24 ∧ n < (ns.length : Int)
def Good (x : PyData) : Prop := ∃ ns, numT Str.empty x = some ns ∧ GoodNs ns
/-- what is still to come, in the midst of a walk -/
def Rest (ns : List Int) (pile : List (PyData × Str)) : Prop := ∃ ms, numP pile = some ms ∧ GoodNs (ns ++ ms)
theorem rest_start (x : PyData) : Rest [] [(x, Str.empty)] ↔ Good x := by
  unfold Rest Good
  rw [show [(x, Str.empty)] = [] ++ [(x, Str.empty)] from rfl, numP_pop]
  show (∃ ms, ((numT Str.empty x).bind fun a => some (a ++ [])) = some ms ∧ _) ↔ _
  cases numT Str.empty x with
  | none => exact ⟨(fun ⟨_, e, _⟩ => nomatch e), (fun ⟨_, e, _⟩ => nomatch e)⟩
  | some a =>
    show (∃ ms, some (a ++ []) = some ms ∧ GoodNs ([] ++ ms)) ↔ _
    rw [List.append_nil]
    exact Iff.rfl
theorem rest_int (ns : List Int) (pre : List (PyData × Str)) (i : Int) (ab : Str) : Rest ns (pre ++ [(.int i, ab)]) ↔ Rest (ns ++ [i]) pre := by
  unfold Rest
  rw [numP_pop, numT_int]
  show (∃ ms, (numP pre).map (fun b => [i] ++ b) = some ms ∧ _) ↔ _
  cases numP pre with
  | none => exact ⟨(fun ⟨_, e, _⟩ => nomatch e), (fun ⟨_, e, _⟩ => nomatch e)⟩
  | some a =>
    constructor
    · rintro ⟨ms, e, h⟩
      cases e
      exact ⟨a, rfl, by rw [List.append_assoc]; exact h⟩
    · rintro ⟨ms, e, h⟩
      cases e
      exact ⟨[i] ++ a, rfl, by rw [List.append_assoc] at h; exact h⟩
theorem rest_knot (ns : List Int) (pre : List (PyData × Str)) (k ab : Str) (ps : List PyData) (hg : goodK ab k ps.length = true) : Rest ns (pre ++ [(.tuple [.str k, .tuple ps], ab)]) ↔ Rest ns (pre ++ ps.map fun p => (p, k)) := by
  unfold Rest
  rw [numP_pop, numT_knot, if_pos hg, numP_app, numP_parts]
theorem rest_bad (ns : List Int) (pre : List (PyData × Str)) (x : PyData) (ab : Str) (h : numT ab x = none) : ¬ Rest ns (pre ++ [(x, ab)]) := by
  unfold Rest
  rw [numP_pop, h]
  rintro ⟨_, e, _⟩
  cases e
theorem rest_bad_num (ns : List Int) (pile : List (PyData × Str)) (h : ¬ (ns.Nodup ∧ ∀ n, n ∈ ns → 0 ≤ n ∧ n < 24)) : ¬ Rest ns pile := by
  rintro ⟨ms, _, h1, h2⟩
  exact h ⟨(List.nodup_append.mp h1).1, fun n hn => ⟨(h2 n (List.mem_append_left _ hn)).1, (h2 n (List.mem_append_left _ hn)).2.1⟩⟩
theorem rest_nil (ns : List Int) : Rest ns [] ↔ GoodNs ns := by
  unfold Rest
  constructor
  · rintro ⟨ms, e, h⟩
    cases e
    rw [List.append_nil] at h
    exact h
  · intro h
    exact ⟨[], rfl, by rw [List.append_nil]; exact h⟩
/-- as data: the pile's items -/
def pairD (p : PyData × Str) : PyData := .tuple [p.1, .str p.2]
def pileN (ps : List (PyData × Str)) : Nat := nodess (ps.map (·.1))
theorem pileN_snoc (pre : List (PyData × Str)) (x : PyData) (ab : Str) : pileN (pre ++ [(x, ab)]) = pileN pre + nodes x := by
  unfold pileN
  rw [List.map_append, nodess_app]
  show _ + nodess [x] = _
  rw [nodess_cons, nodess_nil]
  omega
theorem pileN_parts (pre : List (PyData × Str)) (ps : List PyData) (k : Str) : pileN (pre ++ ps.map fun p => (p, k)) = pileN pre + nodess ps := by
  unfold pileN
  rw [List.map_append, nodess_app, List.map_map]
  congr 1
  rw [show ((fun x : PyData × Str => x.1) ∘ fun p : PyData => (p, k)) = id from rfl, List.map_id]
theorem pileN_len (ps : List (PyData × Str)) : ps.length ≤ pileN ps := by
  have := nodess_len (ps.map (·.1))
  rw [List.length_map] at this
  exact this
theorem nodes_knot (k : Str) (ps : List PyData) : nodes (.tuple [.str k, .tuple ps]) = 3 + nodess ps := by
  rw [nodes_tup, nodess_cons, nodess_cons, nodess_nil, nodes_tup]
  have : nodes (.str k) = 1 := by unfold nodes; rfl
  omega
/-! all texts within are texts of code points -/
mutual
def sok : PyData → Bool
  | .str s => PyData.strOk s
  | .tuple xs => soks xs
  | .list xs => soks xs
  | _ => true
def soks : List PyData → Bool
  | [] => true
  | x :: xs => sok x && soks xs
end
theorem sok_str (s : Str) : sok (.str s) = PyData.strOk s := by unfold sok; rfl
theorem sok_tup (xs : List PyData) : sok (.tuple xs) = soks xs := by unfold sok; rfl
theorem sok_lst (xs : List PyData) : sok (.list xs) = soks xs := by unfold sok; rfl
theorem soks_mem {xs : List PyData} : soks xs = true ↔ ∀ x, x ∈ xs → sok x = true := by
  induction xs with
  | nil => exact ⟨(fun _ x h => nomatch h), (fun _ => by rw [soks])⟩
  | cons x xs ih =>
    rw [soks, Bool.and_eq_true, ih]
    exact ⟨fun h y hy => by
      rcases List.mem_cons.mp hy with rfl | k
      · exact h.1
      · exact h.2 y k, fun h => ⟨h x List.mem_cons_self, fun y hy => h y (List.mem_cons_of_mem _ hy)⟩⟩

/-! ### is_tree -/
theorem GoodNs.dec (ns : List Int) : ∃ b : Bool, (b = true ↔ GoodNs ns) := by
  by_cases h : GoodNs ns
  · exact ⟨true, by simp [h]⟩
  · exact ⟨false, by simp [h]⟩
def G_is_tree : GF := fun ls Po _ => ∃ x, ls = [.d x] ∧ nodes x ≤ 100000 ∧ sok x = true ∧ ∀ b : Bool, (b = true ↔ Good x) → Po (.d (.bool b)) []
theorem ok_is_tree (T : Txt K mg) : FnOk P w K mg base CX0 2 T.f_is_tree T.fd_is_tree ["thing"] (SpG K none G_is_tree) := by
  refine T.d_is_tree.F.ok sc_is_tree (SpG.len (n := 1) fun ls Po Pe h => by obtain ⟨_, rfl, _⟩ := h; rfl) (fun cdv A outer s H vs Q E hr h => ⟨_, (pss_cons (ps_setO (i := 1) sc_is_tree.nd rfl (.inl rfl) pe_dnewK)
 (pss_cons (ps_setO (i := 2) sc_is_tree.nd rfl (.inl rfl) (pe_lst (pa_cons (pe_tup (pa_cons (pv 0) (pa_cons pe_str pa_nil))) pa_nil)))
 (pss_cons (ps_while PassesOwn.never (pt_cmpR (k_neE K rfl hr.units) (pv 2) (pe_lst pa_nil) (nomark _)) (pss_cons (ps_asg (k_bm0 K rfl PySem.F.plainAttrs_list PySem.F.slot_list_pop PySem.F.type_list_pop mt_pop (pv 2)) (k_gTup (n := 2) K rfl rfl (pgs_cons (pg_name (i := 3) sc_is_tree.nd rfl (Or.inl rfl)) (pgs_cons (pg_name (i := 4) sc_is_tree.nd rfl (Or.inl rfl)) pgs_nil))))
 (pss_cons (ps_if (pt_val (pe_call (ok_is_whole T) hr (by rfl) T.d_is_whole.g T.d_is_whole.kp T.d_is_whole.b .nil pass0 (pa_cons (pv 3) pa_nil))) (pss_cons (ps_if (PW.pt (pw_or (pt_cmpR op_lt (pv 3) pe_int (nomark _)) (pw_or (pt_cmpR op_ge (pv 3) (pe_glob (v := .int 24) rfl T.c_MOST_BOXES ⟨_, rfl⟩) (nomark _)) (pw_or1 (pt_cmp (pc_din (hu_of hr) (pv 3) (pv 1))))))) (pss_one (ps_ret pe_bl)) pss_nil)
 (pss_cons (ps_dput (hu_of hr) (pv 1) (pv 3) pe_bl rfl)
 (pss_one ps_continue))) pss_nil)
 (pss_cons (ps_if (PW.pt (pw_or (pt_not (pt_val (pe_callB (k_isi K) (by rfl) T.b_isinstance (by decide +kernel) (pa_cons (pv 3) (pa_cons (pe_bltn (v := .ty "tuple") (by rfl) T.b_tuple (by decide +kernel) rfl) pa_nil))))) (pw_or (pt_cmpR (k_neD K rfl hr.units) (pe_callB (k_len K) (by rfl) T.b_len PySem.boot_len (pa_cons (pv 3) pa_nil)) pe_int (nomark _)) (pw_or1 (pt_not (pt_val (pe_callB (k_isi K) (by rfl) T.b_isinstance (by decide +kernel) (pa_cons (pe_ix (k_ix K) (pv 3) pe_int (fun _ _ => rfl)) (pa_cons (pe_bltn (v := .ty "str") (by rfl) T.b_str (by decide +kernel) rfl) pa_nil))))))))) (pss_one (ps_ret pe_bl)) pss_nil)
 (pss_cons (ps_asg (pv 3) (k_gTup (n := 2) K rfl rfl (pgs_cons (pg_name (i := 5) sc_is_tree.nd rfl (Or.inr rfl)) (pgs_cons (pg_name (i := 6) sc_is_tree.nd rfl (Or.inl rfl)) pgs_nil))))
 (pss_cons (ps_if (PW.pt (pw_or (pt_cmpR (k_niSeq K) (pv 5) (pe_tup (pa_cons pe_str (pa_cons pe_str pa_nil))) (by rfl)) (pw_or (pt_cmpR (k_eqD K rfl hr.units) (pv 5) (pv 4) (nomark _)) (pw_or (pt_not (pt_val (pe_callB (k_isi K) (by rfl) T.b_isinstance (by decide +kernel) (pa_cons (pv 6) (pa_cons (pe_bltn (v := .ty "tuple") (by rfl) T.b_tuple (by decide +kernel) rfl) pa_nil))))) (pw_or1 (pt_cmpR op_lt (pe_callB (k_len K) (by rfl) T.b_len PySem.boot_len (pa_cons (pv 6) pa_nil)) pe_int (nomark _))))))) (pss_one (ps_ret pe_bl)) pss_nil)
 (pss_one (ps_expr (k_bm K rfl PySem.F.plainAttrs_list PySem.F.slot_list_extend PySem.F.type_list_extend mt_extend (pv 2) (pa_cons (pe_lc (own := [("part", 7)]) (g := _) (tt := _) (by rfl) sc_is_tree.nd (k_piT K rfl (pv 6)) (blkOk_by (N := N_is_tree) (sc := defScope s_is_tree) (by decide +kernel)) (fun _ _ _ _ _ => (pg_name (i := 7) sc_is_tree.nd rfl (Or.inl rfl))) (fun _ _ _ _ _ => pts_nil) (fun _ _ _ _ _ => (pe_tup (pa_cons (pv 7) (pa_cons (pv 5) pa_nil))))) pa_nil))))))))))
 (pss_one (ps_ret (pe_cmpR op_lt (pe_callB (k_maxDI rfl) (by rfl) T.b_max (by decide +kernel) (pa_cons (pv 1) pa_nil)) (pe_callB call_lenD (by rfl) T.b_len PySem.boot_len (pa_cons (pv 1) pa_nil)) (nomark _))))))), rd_of h fun B ls Po Pe hB hG hE => ?_⟩)
  obtain ⟨x, rfl, hx, hsx, q⟩ := hG
  show WS B K _ [some (.d x), none, none, none, none, none, none, none] _
  walk_at "sv"
  refine ws_while (fun m ρ => ∃ (ns : List Int) (xs : List PyData) (ps : List (PyData × Str)) (o3 o4 o5 o6 : Option L), ρ = [some (.d x), some (.ownD (ns.map Sum.inl) xs), some (.own (ps.map pairD)), o3, o4, o5, o6, none] ∧ m = pileN ps ∧ m ≤ 100000 ∧ (Rest ns ps ↔ Good x) ∧ ns.Nodup ∧ (∀ n, n ∈ ns → 0 ≤ n ∧ n < 24) ∧ (ps ≠ [] ∨ ns ≠ []) ∧ ∀ p, p ∈ ps → sok p.1 = true ∧ PyData.strOk p.2 = true)
    ⟨pileN [(x, Str.empty)], [], [], [(x, Str.empty)], none, none, none, none, rfl, rfl, ?_, rest_start x, List.nodup_nil, (fun n h => nomatch h), .inl (fun z => nomatch z), fun p hp => by rw [List.mem_singleton.mp hp]; exact ⟨hsx, show PyData.strOk Str.empty = true by decide +kernel⟩⟩ fun m ρ1 hW => ?_
  · show nodes x + 0 ≤ 100000
    omega
  obtain ⟨ns, xs, ps, o3, o4, o5, o6, rfl, rfl, hm, hre, hnd, hbd, hne, hso⟩ := hW
  have h24 : ns.length ≤ 24 := nodup_len hnd hbd
  rcases snoc_cases ps with rfl | ⟨pre, ⟨here, ab⟩, rfl⟩
  · walk_at "sv"
    refine ⟨rfl, false, rfl, (fun h => nomatch h), fun _ => ?_⟩
    have hn0 : ns ≠ [] := hne.resolve_left fun z => z rfl
    walk_at "sv"
    refine wd_maxDI rfl (by cases ns with | nil => exact absurd rfl hn0 | cons => exact Nat.succ_pos _) fun m hm hmx => ?_
    walk_at "sv"
    refine q _ ?_
    rw [← hre, rest_nil, decide_eq_true_eq, List.length_map]
    exact ⟨fun h => ⟨hnd, fun n hn => ⟨(hbd n hn).1, (hbd n hn).2, by have := hmx n hn; omega⟩⟩, fun h => (h.2 m hm).2.2⟩
  · rw [List.map_append]
    have hpl := pileN_len (pre ++ [(here, ab)])
    have hpn := pileN_snoc pre here ab
    have hpos := nodes_pos here
    have false_ok : ¬ Rest ns (pre ++ [(here, ab)]) → Po (.d (.bool false)) [] := fun h => q _ (by rw [← hre]; exact ⟨(fun z => nomatch z), (fun z => absurd z h)⟩)
    walk_at "sv"
    refine ⟨rfl, true, by cases pre <;> rfl, fun _ => ?_, (fun h => nomatch h)⟩
    have hml : (pre.map pairD).length ≤ 1000000 := by
      rw [List.length_map]
      rw [List.length_append] at hpl
      have : [(here, ab)].length = 1 := rfl
      omega
    walk_at "sv"
    refine wd_e (we_pop (y := .tuple [here, .str ab]) rfl (by rw [List.length_append, show (List.map pairD [(here, ab)]).length = 1 from rfl, Nat.add_sub_cancel, List.getElem?_append_right (Nat.le_refl _), Nat.sub_self]; rfl) ?_)
    rw [show pre.map pairD ++ List.map pairD [(here, ab)] = pre.map pairD ++ [pairD (here, ab)] from rfl, List.dropLast_concat]
    walk_at "sv"
    refine ⟨here, rfl, _, rfl, _, rfl, fun hb => ?_, fun hb => ?_⟩
    · obtain ⟨i, rfl⟩ : ∃ i, here = .int i := by
        cases here <;> first | exact ⟨_, rfl⟩ | cases hb
      have hlim : (ns.map Sum.inl : List Key).length < lim := by
        rw [List.length_map]
        show ns.length < 1000000
        omega
      have bad : ¬ ((ns ++ [i]).Nodup ∧ ∀ n, n ∈ ns ++ [i] → 0 ≤ n ∧ n < 24) → Po (.d (.bool false)) [] := fun h => false_ok fun z => rest_bad_num _ _ h ((rest_int ns pre i ab).mp z)
      walk_at "sv"
      · exact bad fun z => by have := z.2 i (by simp); omega
      · exact bad fun z => by have := z.2 i (by simp); omega
      · rename_i hc
        have hin : i ∈ ns := by
          obtain ⟨u, hu, e⟩ := List.mem_map.mp hc
          injection e with e
          exact e ▸ hu
        exact bad fun z => (List.nodup_append.mp z.1).2.2 i hin i (by simp) rfl
      · rename_i hc
        have hin : i ∉ ns := fun h => hc (List.mem_map.mpr ⟨i, h, rfl⟩)
        rw [putKs_ints, if_neg hin]
        refine ⟨pileN pre, by omega, ns ++ [i], _, pre, _, _, _, _, rfl, rfl, by omega, (rest_int ns pre i ab).symm.trans hre, ?_, fun n hn => ?_, .inr (by simp), fun p hp => hso p (List.mem_append_left _ hp)⟩
        · refine List.nodup_append.mpr ⟨hnd, List.nodup_cons.mpr ⟨(fun k => nomatch k), List.nodup_nil⟩, fun a ha b hb e => ?_⟩
          rw [List.mem_singleton.mp hb] at e
          exact hin (e ▸ ha)
        · rcases List.mem_append.mp hn with k | k
          · exact hbd n k
          · rw [List.mem_singleton.mp k]
            omega
    · have hno : ∀ i, here ≠ .int i := fun i e => by
        rw [e] at hb
        cases hb
      have bad : numT ab here = none → Po (.d (.bool false)) [] := fun h => false_ok (rest_bad _ _ _ _ h)
      have hsoh := (hso (here, ab) (by simp)).1
      have hsab := (hso (here, ab) (by simp)).2
      dsimp only at hsoh hsab
      have hok_ab : OkD 60 (.str ab) := .str hsab
      clear hb
      refine ws_next ?_
      refine ws_opq fun Z' hnx hrt hbk hct => ?_
      have ret : numT ab here = none → ∀ ρ', Z'.rt (.d (.bool false)) ρ' := fun h ρ' => hrt _ _ (bad h)
      walk_at "sn"
      refine ws_ifC (knot here = none) (∃ k b, here = .tuple [.str k, b]) ?_ (fun hc => ?_) fun hc => ?_
      · cases here with
        | tuple ys =>
          rcases ys with _ | ⟨a, _ | ⟨b, _ | ⟨c, l⟩⟩⟩
          · walk_at "sv" <;> first | exact ⟨rfl, fun _ => rfl, fun h => by cases h⟩ | (rename_i hc; exact absurd (show ((0 : Nat) : Int) = 2 from hc) (by decide))
          · walk_at "sv" <;> first | exact ⟨rfl, fun _ => by cases a <;> rfl, fun h => by cases h⟩ | (rename_i hc; exact absurd (show ((1 : Nat) : Int) = 2 from hc) (by decide))
          · walk_at "sv"
            · refine ⟨rfl, fun h => ?_, fun h => ?_⟩
              · cases a <;> first | rfl | (exact absurd h (by decide)) | cases h
              · cases a <;> first | exact ⟨_, _, rfl⟩ | (exact absurd h (by decide)) | cases h
            · rename_i hc; exact absurd (show ((2 : Nat) : Int) = 2 from rfl) hc
          · have hl : (a :: b :: c :: l).length ≤ lim := by
              have k1 := nodess_len (a :: b :: c :: l)
              rw [nodes_tup] at hpn
              show (a :: b :: c :: l).length ≤ 1000000
              omega
            walk_at "sv" <;> first | exact ⟨rfl, fun _ => by cases a <;> cases b <;> rfl, fun h => by cases h⟩ | (rename_i hc; have hc2 : (((l.length + 1 + 1 + 1 : Nat)) : Int) = 2 := hc; exfalso; omega)
        | _ => walk_at "sv"; exact ⟨rfl, fun _ => rfl, fun h => by cases h⟩
      · walk_at "sn"
        exact ret (numT_none hno hc) _
      obtain ⟨k, b, rfl⟩ := hc
      have hsk : PyData.strOk k = true := by
        rw [sok_tup] at hsoh
        have := soks_mem.mp hsoh (.str k) (by simp)
        rw [sok_str] at this
        exact this
      have hsb : sok b = true := by
        rw [sok_tup] at hsoh
        exact soks_mem.mp hsoh b (by simp)
      have hok_k : OkD 60 (.str k) := .str hsk
      walk_at "sn"
      refine ws_ifC (¬ ∃ qs, b = .tuple qs ∧ goodK ab k qs.length = true) (∃ qs, b = .tuple qs ∧ goodK ab k qs.length = true) ?_ (fun hc => ?_) fun hc => ?_
      · walk_at "sv"
        refine ⟨[Str.ofString "|", Str.ofString "-"], .inl rfl, _, rfl, fun hb2 => ?_, fun hb2 => ?_⟩
        · have hb3 : (!decide (k ∈ [barS, dashS])) = true := hb2
          rw [Bool.not_eq_true', decide_eq_false_iff_not] at hb3
          refine ⟨rfl, fun _ => fun ⟨qs, e1, e2⟩ => ?_, fun h => by cases h⟩
          have e3 := of_decide_eq_true e2
          exact hb3 (by rcases e3.1 with e | e <;> rw [e] <;> simp)
        · have hb3 : (!decide (k ∈ [barS, dashS])) = false := hb2
          rw [Bool.not_eq_false', decide_eq_true_eq] at hb3
          have hk2 : k = barS ∨ k = dashS := by simpa using hb3
          have no : ¬ goodK ab k 0 = true → True := fun _ => trivial
          walk_at "sv"
          · have hka : k = ab := by assumption
            exact ⟨rfl, fun _ ⟨qs, e1, e2⟩ => (of_decide_eq_true e2).2.1 hka, fun h => by cases h⟩
          · have hka : k ≠ ab := by assumption
            cases b with
            | tuple qs =>
              refine ⟨fun _ => ?_, fun h => by cases h⟩
              have hl : qs.length ≤ lim := by
                have k1 := nodess_len qs
                rw [nodes_knot] at hpn
                show qs.length ≤ 1000000
                omega
              walk_at "sv"
              refine ⟨rfl, fun hlt ⟨qs2, e1, e2⟩ => ?_, fun hlt => ⟨qs, rfl, decide_eq_true ⟨hk2, hka, ?_⟩⟩⟩
              · cases e1
                have := (of_decide_eq_true e2).2.2
                have := of_decide_eq_true hlt
                omega
              · have := of_decide_eq_false hlt
                omega
            | _ => exact ⟨(fun h => by cases h), fun _ => ⟨rfl, (fun _ h => by obtain ⟨qs, e1, e2⟩ := h; cases e1), fun h => by cases h⟩⟩
      · walk_at "sn"
        refine ret ?_ _
        cases b with
        | tuple qs =>
          rw [numT_knot, if_neg fun z => hc ⟨qs, rfl, z⟩]
        | _ => exact numT_none hno rfl
      · obtain ⟨qs, rfl, hg⟩ := hc
        walk_at "sn"
        refine wd_e (we_lcT id (fun (p : PyData) o => o = some (pairD (p, k))) (.name 7) ?_)
        walk_at "sn"
        have hql : qs.length ≤ 100000 := by
          have k1 := nodess_len qs
          rw [nodes_knot] at hpn
          omega
        refine ⟨qs, by rw [List.map_id], by show qs.length ≤ 1000000; omega, fun p hp B' hB' => ?_, fun zs hz => ?_⟩
        · walk_at "sn"
          first | exact rfl | exact ⟨by show 2 ≤ 1000000; decide, rfl⟩
        have hz2 := Sel.map (f := fun p : PyData => pairD (p, k)) hz
        subst hz2
        refine ⟨_, rfl, _, _, rfl, rfl, ?_, ?_⟩
        · rw [List.length_map, List.length_map]
          show pre.length + qs.length ≤ 1000000
          rw [nodes_knot] at hpn
          have k1 := nodess_len qs
          have k2 := pileN_len pre
          omega
        rw [show List.map (fun p : PyData => pairD (p, k)) qs = (qs.map fun p => (p, k)).map pairD by rw [List.map_map]; rfl, ← List.map_append]
        rw [nodes_knot] at hpn
        have hpp := pileN_parts pre qs k
        refine hnx _ ⟨pileN (pre ++ qs.map fun p => (p, k)), by omega, ns, _, _, _, _, _, _, rfl, rfl, by omega, (rest_knot ns pre k ab qs hg).symm.trans hre, hnd, hbd, ?_, fun p hp => ?_⟩
        · left
          intro z
          have h2 := (of_decide_eq_true hg).2.2
          have h3 := congrArg List.length z
          rw [List.length_append, List.length_map] at h3
          simp only [List.length_nil] at h3
          omega
        · rcases List.mem_append.mp hp with hp | hp
          · exact hso p (List.mem_append_left _ hp)
          · obtain ⟨u, hu, rfl⟩ := List.mem_map.mp hp
            rw [sok_tup] at hsb
            exact ⟨soks_mem.mp hsb u hu, hsk⟩

/-! ### trees as data, put together -/
theorem OkD.mono {n : Nat} {x : PyData} (h : OkD n x) : ∀ {m : Nat}, n ≤ m → OkD m x := by
  induction h with
  | int i => intro m _; exact .int i
  | bool b => intro m _; exact .bool b
  | none => intro m _; exact .none
  | str s => intro m _; exact .str s
  | @list n xs _ ih => intro m hm; obtain ⟨k, rfl⟩ : ∃ k, m = k + 1 := ⟨m - 1, by omega⟩; exact .list fun x hx => ih x hx (by omega)
  | @tuple n xs _ ih => intro m hm; obtain ⟨k, rfl⟩ : ∃ k, m = k + 1 := ⟨m - 1, by omega⟩; exact .tuple fun x hx => ih x hx (by omega)
theorem OkD.sok {n : Nat} {x : PyData} (h : OkD n x) : sok x = true := by
  induction h with
  | int i => unfold SV.sok; rfl
  | bool b => unfold SV.sok; rfl
  | none => unfold SV.sok; rfl
  | str s => rw [sok_str]; exact s
  | list _ ih => rw [sok_lst]; exact soks_mem.mpr ih
  | tuple _ ih => rw [sok_tup]; exact soks_mem.mpr ih
/-- a tree whose numbers, as a walk comes to them, are these -/
structure TrOk (x : PyData) (ns : List Int) : Prop where
  num : numT Str.empty x = some ns
  ok : OkD (2 * ns.length) x
  sz : nodes x + 3 ≤ 4 * ns.length
theorem TrOk.pos {x : PyData} {ns : List Int} (h : TrOk x ns) : 1 ≤ ns.length := by have := h.sz; have := nodes_pos x; omega
theorem trOk_int (i : Int) : TrOk (.int i) [i] := ⟨numT_int _ _, .int i, by show nodes (.int i) + 3 ≤ 4; unfold nodes; omega⟩
theorem numTs_app (k : Str) (as bs : List PyData) : numTs k (as ++ bs) = (numTs k bs).bind fun b => (numTs k as).map fun a => b ++ a := by
  rw [← numP_parts, ← numP_parts, ← numP_parts, List.map_append]
  exact numP_app _ _
theorem numTs_one (k : Str) (x : PyData) : numTs k [x] = numT k x := by
  rw [numTs_cons, numTs_nil]
  show (numT k x).map (fun b => [] ++ b) = _
  cases numT k x <;> rfl
/-- what a tree gives to a knot of a kind: its parts where it is of that kind -/
def partsOf (k : Str) (x : PyData) : List PyData := match knot x with
  | some (k', ps) => if k' = k then ps else [x]
  | none => [x]
theorem knot_some {x : PyData} {k : Str} {ps : List PyData} (h : knot x = some (k, ps)) : x = .tuple [.str k, .tuple ps] := by
  unfold knot at h
  split at h
  · cases h; rfl
  · cases h
theorem numT_cases {x : PyData} {ab : Str} {ns : List Int} (h : numT ab x = some ns) : (∃ i, x = .int i ∧ ns = [i]) ∨ ∃ k ps, x = .tuple [.str k, .tuple ps] ∧ goodK ab k ps.length = true ∧ numTs k ps = some ns := by
  by_cases hi : ∃ i, x = .int i
  · obtain ⟨i, rfl⟩ := hi
    rw [numT_int] at h
    exact .inl ⟨i, rfl, (Option.some.inj h).symm⟩
  · cases e : knot x with
    | none =>
      rw [numT_none (fun i z => hi ⟨i, z⟩) e] at h
      cases h
    | some p =>
      obtain ⟨k, ps⟩ := p
      have := knot_some e
      subst this
      rw [numT_knot] at h
      by_cases c : goodK ab k ps.length = true
      · rw [if_pos c] at h
        exact .inr ⟨k, ps, rfl, c, h⟩
      · rw [if_neg c] at h
        cases h
theorem parts_ok {k : Str} {x : PyData} {as : List Int} (h : TrOk x as) : numTs k (partsOf k x) = some as ∧ 1 ≤ (partsOf k x).length ∧ (∀ p, p ∈ partsOf k x → OkD (2 * as.length) p) ∧ nodess (partsOf k x) + 3 ≤ 4 * as.length := by
  have h3 := h.sz
  rcases numT_cases h.num with ⟨i, rfl, rfl⟩ | ⟨k', ps, rfl, hg, hn⟩
  · have e : partsOf k (.int i) = [.int i] := rfl
    rw [e]
    refine ⟨by rw [numTs_one, numT_int], Nat.le_refl _, fun p hp => ?_, ?_⟩
    · rw [List.mem_singleton.mp hp]; exact .int i
    · rw [nodess_cons, nodess_nil]; omega
  · by_cases c : k' = k
    · subst c
      have e : partsOf k' (.tuple [.str k', .tuple ps]) = ps := if_pos rfl
      rw [e]
      rw [nodes_knot] at h3
      have h2 := (of_decide_eq_true hg).2.2
      refine ⟨hn, by omega, fun p hp => ?_, by omega⟩
      have ho := h.ok
      generalize 2 * as.length = m at ho ⊢
      cases ho with
      | tuple q =>
        have q2 := q (.tuple ps) (by simp)
        cases q2 with
        | tuple q3 => exact (q3 p hp).mono (by omega)
    · have e : partsOf k (.tuple [.str k', .tuple ps]) = [.tuple [.str k', .tuple ps]] := if_neg c
      rw [e]
      refine ⟨?_, Nat.le_refl _, fun p hp => ?_, ?_⟩
      · rw [numTs_one, numT_knot, if_pos]
        · exact hn
        · have z := of_decide_eq_true hg
          exact decide_eq_true ⟨z.1, c, z.2.2⟩
      · rw [List.mem_singleton.mp hp]; exact h.ok
      · rw [nodess_cons, nodess_nil]; omega
def joinD (k : Str) (x y : PyData) : PyData := .tuple [.str k, .tuple (partsOf k x ++ partsOf k y)]
theorem strOk_kind {k : Str} (h : k = barS ∨ k = dashS) : PyData.strOk k = true := by rcases h with rfl | rfl <;> decide +kernel
theorem trOk_join {k : Str} {x y : PyData} {as bs : List Int} (hk : k = barS ∨ k = dashS) (hx : TrOk x as) (hy : TrOk y bs) : TrOk (joinD k x y) (bs ++ as) := by
  obtain ⟨a1, a2, a3, a4⟩ := parts_ok (k := k) hx
  obtain ⟨b1, b2, b3, b4⟩ := parts_ok (k := k) hy
  have pa := hx.pos
  have pb := hy.pos
  refine ⟨?_, ?_, ?_⟩
  · unfold joinD
    rw [numT_knot, if_pos, numTs_app, a1, b1]
    · rfl
    · refine decide_eq_true ⟨hk, ?_, ?_⟩
      · rcases hk with rfl | rfl <;> decide +kernel
      · rw [List.length_append]; omega
  · rw [List.length_append, show 2 * (bs.length + as.length) = (2 * (bs.length + as.length) - 2) + 1 + 1 by omega]
    refine .tuple fun z hz => ?_
    simp only [List.mem_cons, List.not_mem_nil, or_false] at hz
    rcases hz with rfl | rfl
    · exact .str (strOk_kind hk)
    · refine .tuple fun p hp => ?_
      rcases List.mem_append.mp hp with hp | hp
      · exact (a3 p hp).mono (by omega)
      · exact (b3 p hp).mono (by omega)
  · unfold joinD
    rw [nodes_knot, nodess_app, List.length_append]
    omega

/-! ### slices -/
theorem ixN_of {n i : Nat} (h : i < n) : ixN n (i : Int) = some i := by
  unfold ixN
  rw [if_pos (Int.natCast_nonneg i), if_pos (by omega), Int.toNat_natCast]
theorem atI_nat {α : Type} {xs : List α} {j : Nat} {x : α} (h : xs[j]? = some x) : atI xs (j : Int) = some x := by
  unfold atI
  rw [ixN_of (List.getElem?_eq_some_iff.mp h).1]
  exact h

/-! ### data that is small and of good texts -/
structure SN (m : Nat) (x : PyData) : Prop where
  ok : sok x = true
  sz : nodes x ≤ m

/-! ### a tree has no more knots than its boxes allow -/
theorem numTs_consI {k : Str} {p : PyData} {ps : List PyData} {ns : List Int} (h : numTs k (p :: ps) = some ns) : ∃ a b, numTs k ps = some a ∧ numT k p = some b ∧ ns = a ++ b := by
  rw [numTs_cons] at h
  cases e1 : numTs k ps with
  | none => rw [e1] at h; cases h
  | some a =>
    cases e2 : numT k p with
    | none => rw [e1, e2] at h; cases h
    | some b =>
      rw [e1, e2] at h
      exact ⟨a, b, rfl, rfl, (Option.some.inj h).symm⟩
theorem num_nodes : ∀ (n : Nat) {x : PyData} {ab : Str} {ns : List Int}, nodes x ≤ n → numT ab x = some ns → nodes x + 3 ≤ 4 * ns.length
  | 0, x, _, _, h, _ => by have := nodes_pos x; omega
  | n + 1, x, ab, ns, h, hx => by
    rcases numT_cases hx with ⟨i, rfl, rfl⟩ | ⟨k, ps, rfl, hg, hn⟩
    · show nodes (.int i) + 3 ≤ 4
      unfold nodes
      omega
    · rw [nodes_knot] at h ⊢
      have key : ∀ {qs : List PyData} {ms : List Int}, nodess qs ≤ n → numTs k qs = some ms → nodess qs + 3 * qs.length ≤ 4 * ms.length := by
        intro qs
        induction qs with
        | nil => intro ms _ e; rw [nodess_nil]; simp
        | cons q qs ih =>
          intro ms h1 e
          rw [nodess_cons] at h1 ⊢
          obtain ⟨a, b, e1, e2, rfl⟩ := numTs_consI e
          have h2 := ih (by omega) e1
          have h3 := num_nodes n (x := q) (by omega) e2
          rw [List.length_append, List.length_cons]
          omega
      have h2 := key (by omega) hn
      have h3 := (of_decide_eq_true hg).2.2
      omega
theorem GoodNs.le {ns : List Int} (h : GoodNs ns) : ns.length ≤ 24 := nodup_len h.1 fun z hz => ⟨(h.2 z hz).1, (h.2 z hz).2.1⟩
/-- how many boxes a tree has -/
def cntT (ab : Str) (x : PyData) : Nat := ((numT ab x).getD []).length
theorem cntT_of {ab : Str} {x : PyData} {ns : List Int} (h : numT ab x = some ns) : cntT ab x = ns.length := by unfold cntT; rw [h]; rfl
theorem cnt_sum {k : Str} : ∀ {ps : List PyData} {ns : List Int}, numTs k ps = some ns → (∀ p, p ∈ ps → ∃ ms, numT k p = some ms) ∧ (ps.map fun p => (cntT k p : Int)).sum = ns.length
  | [], ns, h => by
    rw [numTs_nil] at h
    cases h
    exact ⟨(fun p h => nomatch h), rfl⟩
  | p :: ps, ns, h => by
    obtain ⟨a, b, e1, e2, rfl⟩ := numTs_consI h
    obtain ⟨h1, h2⟩ := cnt_sum e1
    refine ⟨fun q hq => ?_, ?_⟩
    · rcases List.mem_cons.mp hq with rfl | hq
      · exact ⟨b, e2⟩
      · exact h1 q hq
    · rw [List.map_cons, List.sum_cons, h2, cntT_of e2, List.length_append]
      omega
theorem nodess_mem' {x : PyData} : ∀ {xs : List PyData}, x ∈ xs → nodes x ≤ nodess xs
  | [], h => nomatch h
  | y :: ys, h => by
    rw [nodess_cons]
    rcases List.mem_cons.mp h with rfl | h
    · omega
    · have := nodess_mem' h
      omega

/-! ### count_boxes, which calls itself -/
def G_countR (d : Nat) : GF := fun ls Po _ => ∃ x ab ns, ls = [.d x] ∧ (numT ab x = some ns ∧ nodes x ≤ 3 * d ∧ d ≤ 1000) ∧ Po (.d (.int ns.length)) []
theorem rec_count_boxes (T : Txt K mg) (d : Nat) : FnOk P w K mg base CX0 (2 + d) T.f_count_boxes T.fd_count_boxes ["tree"] (SpG K none (G_countR d)) := by
  induction d with
  | zero => exact fn_none fun ls Po Pe ⟨x, ab, ns, _, ⟨_, h, _⟩, _⟩ => by have := nodes_pos x; omega
  | succ d ih =>
    refine T.d_count_boxes.F.ok (k := 2 + d) sc_count_boxes (SpG.len (n := 1) fun ls Po Pe h => by obtain ⟨_, _, _, rfl, _⟩ := h; rfl) (fun cdv A outer s H vs Q E hr h => ⟨_, (pss_cons (ps_if (pt_val (pe_call (ok_is_whole T) (hr.mono (by omega)) (by rfl) T.d_is_whole.g T.d_is_whole.kp T.d_is_whole.b .nil pass0 (pa_cons (pv 0) pa_nil))) (pss_one (ps_ret pe_int)) pss_nil)
 (pss_one (ps_ret (pe_callB (k_sum K rfl rfl) (by rfl) T.b_sum (by decide +kernel) (pa_cons (pe_lc (own := [("part", 1)]) (g := _) (tt := _) (by rfl) sc_count_boxes.nd (k_piT K rfl (pe_ix (k_ix K) (pv 0) pe_int (fun _ _ => rfl))) (blkOk_by (N := N_count_boxes) (sc := defScope s_count_boxes) (by decide +kernel)) (fun _ _ _ _ _ => (pg_name (i := 1) sc_count_boxes.nd rfl (Or.inl rfl))) (fun _ _ _ _ _ => pts_nil) (fun _ _ _ _ _ => (pe_call ih hr (by rfl) T.d_count_boxes.g T.d_count_boxes.kp T.d_count_boxes.b .nil pass0 (pa_cons (pv 1) pa_nil)))) pa_nil))))), rd_of h fun B ls Po Pe hB hG hE => ?_⟩)
    obtain ⟨x, ab, ns, rfl, ⟨hx, hn, hd⟩, q⟩ := hG
    show WS B K _ [some (.d x), none] _
    rcases numT_cases hx with ⟨i, rfl, rfl⟩ | ⟨k, ps, rfl, hg, hps⟩
    · walk_at "sv"
      refine ⟨_, rfl, _, rfl, ?_⟩
      walk_at "sv"
      exact q
    · rw [nodes_knot] at hn
      obtain ⟨c1, c2⟩ := cnt_sum hps
      have hql := nodess_len ps
      walk_at "sv"
      refine ⟨_, rfl, _, rfl, ?_⟩
      walk_at "sv"
      refine wd_sum ?_
      refine wd_e (we_lcT id (fun (p : PyData) o => o = some (.int (cntT k p : Int))) (.name 1) ?_)
      walk_at "sv"
      refine ⟨ps, by rw [List.map_id], by show ps.length ≤ 1000000; omega, fun p hp B' hB' => ?_, fun zs hz => ?_⟩
      · obtain ⟨ms, hms⟩ := c1 p hp
        have h1 := nodess_mem' hp
        walk_at "sv"
        exact ⟨p, k, ms, rfl, ⟨hms, by omega, by omega⟩, ⟨_, rfl, by show some (PyData.int ms.length) = some (.int (cntT k p : Int)); rw [cntT_of hms]⟩⟩
      · have e := Sel.map (f := fun p : PyData => PyData.int (cntT k p : Int)) hz
        subst e
        refine ⟨_, rfl, ps.map fun p => (cntT k p : Int), by rw [List.map_map]; rfl, ?_⟩
        rw [c2]
        exact q
def G_count_boxes : GF := fun ls Po _ => ∃ x ab ns, ls = [.d x] ∧ (numT ab x = some ns ∧ ns.length ≤ 24) ∧ Po (.d (.int ns.length)) []
theorem ok_count_boxes (T : Txt K mg) : FnOk P w K mg base CX0 42 T.f_count_boxes T.fd_count_boxes ["tree"] (SpG K none G_count_boxes) :=
  (rec_count_boxes T 40).imp (spg_imp fun ls Po Pe ⟨x, ab, ns, e, ⟨h1, h2⟩, q⟩ => ⟨x, ab, ns, e, ⟨h1, by have := num_nodes _ (Nat.le_refl _) h1; omega, by decide⟩, q⟩)

/-! ### need_tree, boxes_of, show_tree -/
def G_need_tree (C : Addr) : GF := fun ls Po Pe => ∃ x, ls = [.d x] ∧ SN 100000 x ∧ (Good x → Po (.d x) []) ∧ (¬ Good x → Pe C)
theorem ok_need_tree (T : Txt K mg) : FnOk P w K mg base (L2.CX P w) 3 T.f_need_tree T.fd_need_tree ["thing"] (SpG K none (G_need_tree T.a_NoTree)) := by
  refine T.d_need_tree.F.okX sc_need_tree (SpG.len (n := 1) fun ls Po Pe h => by obtain ⟨_, rfl, _⟩ := h; rfl) (fun cdv A outer s H vs Q E hr h => ⟨_, (pss_cons (ps_if (pt_not (pt_val (pe_call (ok_is_tree T) hr (by rfl) T.d_is_tree.g T.d_is_tree.kp T.d_is_tree.b .nil pass0 (pa_cons (pv 0) pa_nil)))) (pss_one (p_raise (takes_of rfl rfl rfl rfl) (pmk_own PySem.F.excBase_ValueError T.NoTree.x T.NoTree.g T.NoTree.k (raises_own T.NoTree.b T.NoTree.t) (by exact rfl)))) pss_nil)
 (pss_one (ps_ret (pv 0)))), rd_of h fun B ls Po Pe hB hG hE => ?_⟩)
  obtain ⟨x, rfl, hx, q1, q2⟩ := hG
  show WS B K _ [some (.d x)] _
  walk_at "sn"
  refine ws_ifC (¬ Good x) (Good x) ?_ (fun hc => ?_) fun hc => ?_
  · walk_at "sv"
    refine ⟨x, rfl, hx.sz, hx.ok, fun b hb => ⟨_, rfl, _, rfl, ?_⟩⟩
    refine ⟨rfl, fun h g => ?_, fun h => ?_⟩
    · rw [hb.mpr g] at h
      cases h
    · cases b with
      | true => exact hb.mp rfl
      | false => cases h
  · walk_at "sn"
    exact ws_raise (hE _ (q2 hc))
  · walk_at "sn"
    exact q1 hc
def G_boxes_of (C : Addr) : GF := fun ls Po Pe => ∃ x, ls = [.d x] ∧ SN 100000 x ∧ (∀ ns, numT Str.empty x = some ns → GoodNs ns → Po (.d (.int ns.length)) []) ∧ (¬ Good x → Pe C)
theorem ok_boxes_of (T : Txt K mg) : FnOk P w K mg base (L2.CX P w) 43 T.f_boxes_of T.fd_boxes_of ["tree"] (SpG K none (G_boxes_of T.a_NoTree)) := by
  refine T.d_boxes_of.F.okX sc_boxes_of (SpG.len (n := 1) fun ls Po Pe h => by obtain ⟨_, rfl, _⟩ := h; rfl) (fun cdv A outer s H vs Q E hr h => ⟨_, (pss_one (ps_ret (pe_call (ok_count_boxes T) hr (by rfl) T.d_count_boxes.g T.d_count_boxes.kp T.d_count_boxes.b .nil pass0 (pa_cons (pe_call (ok_need_tree T) (hr.mono (by decide)) (by rfl) T.d_need_tree.g T.d_need_tree.kp T.d_need_tree.b .nil (passes_call (takes_of rfl rfl rfl rfl) fun _ _ _ _ h => h) (pa_cons (pv 0) pa_nil)) pa_nil)))), rd_of h fun B ls Po Pe hB hG hE => ?_⟩)
  obtain ⟨x, rfl, hx, q1, q2⟩ := hG
  show WS B K _ [some (.d x)] _
  walk_at "sn"
  refine ⟨_, fun C => C = T.a_NoTree ∧ ¬ Good x, rfl, ⟨x, rfl, hx, fun g => ⟨_, rfl, ?_⟩, fun g => ⟨rfl, g⟩⟩, fun C hC => hE _ (by rw [hC.1]; exact q2 hC.2)⟩
  obtain ⟨ns, h1, h2⟩ := g
  walk_at "sn"
  exact ⟨x, _, ns, rfl, ⟨h1, h2.le⟩, q1 ns h1 h2⟩

/-! ### staircases -/
abbrev Sp := Int × Int
def spD (p : Sp) : PyData := .tuple [.int p.1, .int p.2]
def Sc (R : List Sp) : Prop := R.Pairwise fun p q => p.1 < q.1 ∧ q.2 < p.2
def Up (R : List Sp) (x y : Int) : Prop := ∃ p, p ∈ R ∧ p.1 ≤ x ∧ p.2 ≤ y
theorem Up.mono {R : List Sp} {x y x' y' : Int} (h : Up R x y) (hx : x ≤ x') (hy : y ≤ y') : Up R x' y' := by
  obtain ⟨p, hp, h1, h2⟩ := h
  exact ⟨p, hp, by omega, by omega⟩
theorem Sc.anti {R : List Sp} (h : Sc R) {p q : Sp} (hp : p ∈ R) (hq : q ∈ R) (h1 : p.1 ≤ q.1) (h2 : p.2 ≤ q.2) : p = q := by
  obtain ⟨i, hi, rfl⟩ := List.getElem_of_mem hp
  obtain ⟨j, hj, rfl⟩ := List.getElem_of_mem hq
  have k := List.pairwise_iff_getElem.mp h
  rcases Nat.lt_trichotomy i j with c | c | c
  · have := k i j hi hj c
    omega
  · subst c; rfl
  · have := k j i hj hi c
    omega
theorem Sc.mem {R R' : List Sp} (h : Sc R) (e : ∀ x y, Up R x y ↔ Up R' x y) {p : Sp} (hp : p ∈ R) : p ∈ R' := by
  obtain ⟨q, hq, q1, q2⟩ := (e p.1 p.2).mp ⟨p, hp, Int.le_refl _, Int.le_refl _⟩
  obtain ⟨r, hr, r1, r2⟩ := (e q.1 q.2).mpr ⟨q, hq, Int.le_refl _, Int.le_refl _⟩
  have e1 := h.anti hr hp (by omega) (by omega)
  subst e1
  have e2 : q = r := Prod.ext (by omega) (by omega)
  rw [← e2]
  exact hq
theorem Sc.nodup {R : List Sp} (h : Sc R) : R.Nodup := h.imp fun {p q} z e => by subst e; omega
theorem Sc.uniq {R R' : List Sp} (h : Sc R) (h' : Sc R') (e : ∀ x y, Up R x y ↔ Up R' x y) : R = R' := by
  have pm : R.Perm R' := (List.perm_ext_iff_of_nodup h.nodup h'.nodup).mpr fun p => ⟨fun hp => h.mem e hp, fun hp => h'.mem (fun x y => (e x y).symm) hp⟩
  exact List.Perm.eq_of_pairwise (le := fun p q : Sp => p.1 < q.1) (fun a b _ _ z1 z2 => by omega) (h.imp fun z => z.1) (h'.imp fun z => z.1) pm
structure Stairs (R : List Sp) (F : Int → Int → Prop) : Prop where
  sc : Sc R
  up : ∀ x y, Up R x y ↔ F x y
theorem Stairs.uniq {R R' : List Sp} {F : Int → Int → Prop} (h : Stairs R F) (h' : Stairs R' F) : R = R' := h.sc.uniq h'.sc fun x y => (h.up x y).trans (h'.up x y).symm
theorem Stairs.congr {R : List Sp} {F G : Int → Int → Prop} (h : Stairs R F) (e : ∀ x y, F x y ↔ G x y) : Stairs R G := ⟨h.sc, fun x y => (h.up x y).trans (e x y)⟩
/-! the drops of a row -/
def toSp (p : Int × Nat) : Sp := (p.1, (p.2 : Int))
theorem spD_toSp (ps : List (Int × Nat)) : (ps.map toSp).map spD = ps.map stD := by rw [List.map_map]; rfl
theorem due_inv (c : Int → Nat) (lo : Int) : ∀ n : Nat, (∀ p, p ∈ dueL c lo n → lo ≤ p.1 ∧ p.1 < lo + n ∧ p.2 = c p.1) ∧ Sc ((dueL c lo n).map toSp) ∧ ∀ u : Int, lo ≤ u → u < lo + n → ∃ p, p ∈ dueL c lo n ∧ p.1 ≤ u ∧ p.2 ≤ c u
  | 0 => ⟨(fun p h => by cases h), List.Pairwise.nil, fun u h1 h2 => by omega⟩
  | n + 1 => by
    obtain ⟨i1, i2, i3⟩ := due_inv c lo n
    have e : dueL c lo (n + 1) = match (dueL c lo n).getLast? with
      | none => [(lo + n, c (lo + n))]
      | some l => if c (lo + n) < l.2 then dueL c lo n ++ [(lo + n, c (lo + n))] else dueL c lo n := rfl
    rcases snoc_cases (dueL c lo n) with e0 | ⟨g, l, e0⟩
    · rw [e0] at e i3
      have e : dueL c lo (n + 1) = [(lo + n, c (lo + n))] := e
      rw [e]
      refine ⟨fun p hp => ?_, List.pairwise_singleton _ _, fun u h1 h2 => ?_⟩
      · rw [List.mem_singleton.mp hp]
        exact ⟨by dsimp only; omega, by dsimp only; omega, rfl⟩
      · by_cases c' : u < lo + n
        · obtain ⟨p, hp, _⟩ := i3 u h1 c'
          cases hp
        · exact ⟨_, List.mem_cons_self, by dsimp only; omega, by rw [show u = lo + n by omega]; exact Nat.le_refl _⟩
    · rw [e0] at e i1 i2 i3
      rw [List.getLast?_concat] at e
      dsimp only at e
      have il := i1 l (by simp)
      by_cases d : c (lo + n) < l.2
      · rw [if_pos d] at e
        rw [e]
        refine ⟨fun p hp => ?_, ?_, fun u h1 h2 => ?_⟩
        · rcases List.mem_append.mp hp with hp | hp
          · have := i1 p hp
            exact ⟨this.1, by omega, this.2.2⟩
          · rw [List.mem_singleton.mp hp]
            exact ⟨by dsimp only; omega, by dsimp only; omega, rfl⟩
        · rw [List.map_append]
          refine List.pairwise_append.mpr ⟨i2, List.pairwise_singleton _ _, fun p hp q hq => ?_⟩
          rw [List.mem_singleton.mp hq]
          obtain ⟨p', hp', rfl⟩ := List.mem_map.mp hp
          have a1 := i1 p' hp'
          refine ⟨by show p'.1 < lo + n; omega, ?_⟩
          show ((c (lo + n) : Nat) : Int) < (p'.2 : Int)
          have i2' := i2
          rw [List.map_append] at i2'
          rcases List.mem_append.mp hp' with hg | hl
          · have := (List.pairwise_append.mp i2').2.2 (toSp p') (List.mem_map.mpr ⟨_, hg, rfl⟩) (toSp l) (List.mem_map.mpr ⟨_, List.mem_cons_self, rfl⟩)
            have h2 : ((l.2 : Nat) : Int) < (p'.2 : Int) := this.2
            omega
          · rw [List.mem_singleton.mp hl]
            omega
        · by_cases c' : u < lo + n
          · obtain ⟨p, hp, q⟩ := i3 u h1 c'
            exact ⟨p, List.mem_append_left _ hp, q⟩
          · exact ⟨_, List.mem_append_right _ List.mem_cons_self, by dsimp only; omega, by rw [show u = lo + n by omega]; exact Nat.le_refl _⟩
      · rw [if_neg d] at e
        rw [e]
        refine ⟨fun p hp => ?_, i2, fun u h1 h2 => ?_⟩
        · have := i1 p hp
          exact ⟨this.1, by omega, this.2.2⟩
        · by_cases c' : u < lo + n
          · exact i3 u h1 c'
          · exact ⟨l, by simp, by omega, by rw [show u = lo + n by omega]; omega⟩
theorem due_up (c : Int → Nat) (lo : Int) (n : Nat) (w h : Int) : Up ((dueL c lo n).map toSp) w h ↔ ∃ u, lo ≤ u ∧ u ≤ w ∧ u < lo + n ∧ (c u : Int) ≤ h := by
  obtain ⟨i1, i2, i3⟩ := due_inv c lo n
  constructor
  · rintro ⟨p, hp, h1, h2⟩
    obtain ⟨p', hp', rfl⟩ := List.mem_map.mp hp
    have a := i1 p' hp'
    have h1' : p'.1 ≤ w := h1
    have h2' : (p'.2 : Int) ≤ h := h2
    exact ⟨p'.1, a.1, h1', a.2.1, by rw [← a.2.2]; exact h2'⟩
  · rintro ⟨u, h1, h2, h3, h4⟩
    obtain ⟨p, hp, q1, q2⟩ := i3 u h1 h3
    exact ⟨toSp p, List.mem_map.mpr ⟨_, hp, rfl⟩, by show p.1 ≤ w; omega, by show ((p.2 : Nat) : Int) ≤ h; omega⟩
/-! ### what fits into a width and a height -/
def fitB (ws : List Str) (w h : Int) : Prop := 1 ≤ w ∧ 1 ≤ h ∧ (∀ v, v ∈ ws → (v.length : Int) ≤ w) ∧ (cW ws w : Int) ≤ h
theorem box_nil : Stairs [(1, 1)] (fitB []) := by
  refine ⟨List.pairwise_singleton _ _, fun x y => ⟨?_, ?_⟩⟩
  · rintro ⟨p, hp, h1, h2⟩
    rw [List.mem_singleton.mp hp] at h1 h2
    exact ⟨h1, h2, fun v hv => (nomatch hv), by show ((0 : Nat) : Int) ≤ y; dsimp only at h2; omega⟩
  · rintro ⟨h1, h2, _, _⟩
    exact ⟨_, List.mem_cons_self, h1, h2⟩
theorem box_words {ws : List Str} (hne : ws ≠ []) (hw : ∀ v, v ∈ ws → IsWord v) {m : Int} (hm : IsMax ws m) : Stairs ((dueW ws m (tot ws)).map toSp) (fitB ws) := by
  obtain ⟨⟨v, hv, ev⟩, hmax⟩ := hm
  have hmt : m ≤ tot ws := by have := tot_len hv; omega
  have hm1 : 1 ≤ m := by have := (hw v hv).1; omega
  refine ⟨(due_inv _ _ _).2.1, fun w h => (due_up _ _ _ w h).trans ⟨?_, ?_⟩⟩
  · rintro ⟨u, h1, h2, h3, h4⟩
    have hu : ∀ x, x ∈ ws → (x.length : Int) ≤ u := fun x hx => by have := hmax x hx; omega
    have a1 := cW_anti (ws := ws) h2 hu
    have a2 := cW_pos (w := w) hne
    exact ⟨by omega, by omega, fun x hx => by have := hu x hx; omega, by omega⟩
  · rintro ⟨h1, h2, h3, h4⟩
    have hmw : m ≤ w := by have := h3 v hv; omega
    by_cases c : w ≤ tot ws
    · exact ⟨w, hmw, Int.le_refl _, by omega, h4⟩
    · exact ⟨tot ws, hmt, by omega, by omega, by rw [cW_tot hne (Int.le_refl _)]; exact h2⟩
mutual
def fitT (tx : Int → List Str) : PyData → Int → Int → Prop
  | .int i, w, h => fitB (tx i) w h
  | .tuple [.str k, .tuple ps], w, h => (k = dashS ∧ fitBelow tx ps w h) ∨ (k = barS ∧ fitBeside tx ps w h)
  | _, _, _ => False
def fitBelow (tx : Int → List Str) : List PyData → Int → Int → Prop
  | [], _, h => 0 ≤ h
  | p :: ps, w, h => ∃ a, fitT tx p w a ∧ fitBelow tx ps w (h - a)
def fitBeside (tx : Int → List Str) : List PyData → Int → Int → Prop
  | [], w, _ => 0 ≤ w
  | p :: ps, w, h => ∃ a, fitT tx p a h ∧ fitBeside tx ps (w - a) h
end
theorem fitT_int {tx : Int → List Str} {i w h : Int} : fitT tx (.int i) w h ↔ fitB (tx i) w h := by unfold fitT; exact Iff.rfl
theorem fitT_knot {tx : Int → List Str} {k : Str} {ps : List PyData} {w h : Int} : fitT tx (.tuple [.str k, .tuple ps]) w h ↔ ((k = dashS ∧ fitBelow tx ps w h) ∨ (k = barS ∧ fitBeside tx ps w h)) := by rw [fitT]
theorem dash_ne : dashS ≠ barS := by decide +kernel
theorem fitT_dash {tx : Int → List Str} {ps : List PyData} {w h : Int} : fitT tx (.tuple [.str dashS, .tuple ps]) w h ↔ fitBelow tx ps w h := by
  rw [fitT_knot]
  exact ⟨fun z => z.elim (fun q => q.2) fun q => absurd q.1 dash_ne, fun q => .inl ⟨rfl, q⟩⟩
theorem fitT_bar {tx : Int → List Str} {ps : List PyData} {w h : Int} : fitT tx (.tuple [.str barS, .tuple ps]) w h ↔ fitBeside tx ps w h := by
  rw [fitT_knot]
  exact ⟨fun z => z.elim (fun q => absurd q.1.symm dash_ne) fun q => q.2, fun q => .inr ⟨rfl, q⟩⟩
theorem below_nil {tx : Int → List Str} {w h : Int} : fitBelow tx [] w h ↔ 0 ≤ h := by unfold fitBelow; exact Iff.rfl
theorem below_cons {tx : Int → List Str} {p : PyData} {ps : List PyData} {w h : Int} : fitBelow tx (p :: ps) w h ↔ ∃ a, fitT tx p w a ∧ fitBelow tx ps w (h - a) := by rw [fitBelow]
theorem beside_nil {tx : Int → List Str} {w h : Int} : fitBeside tx [] w h ↔ 0 ≤ w := by unfold fitBeside; exact Iff.rfl
theorem beside_cons {tx : Int → List Str} {p : PyData} {ps : List PyData} {w h : Int} : fitBeside tx (p :: ps) w h ↔ ∃ a, fitT tx p a h ∧ fitBeside tx ps (w - a) h := by rw [fitBeside]
theorem below_snoc {tx : Int → List Str} {p : PyData} : ∀ {ps : List PyData} {w h : Int}, fitBelow tx (ps ++ [p]) w h ↔ ∃ a b, fitBelow tx ps w a ∧ fitT tx p w b ∧ a + b ≤ h
  | [], w, h => by
    rw [List.nil_append, below_cons]
    constructor
    · rintro ⟨a, h1, h2⟩
      rw [below_nil] at h2
      exact ⟨0, a, below_nil.mpr (Int.le_refl _), h1, by omega⟩
    · rintro ⟨a, b, h1, h2, h3⟩
      rw [below_nil] at h1
      exact ⟨b, h2, below_nil.mpr (by omega)⟩
  | q :: ps, w, h => by
    rw [List.cons_append, below_cons]
    constructor
    · rintro ⟨a, h1, h2⟩
      obtain ⟨x, y, g1, g2, g3⟩ := below_snoc.mp h2
      exact ⟨a + x, y, below_cons.mpr ⟨a, h1, by rw [show a + x - a = x by omega]; exact g1⟩, g2, by omega⟩
    · rintro ⟨x, y, g1, g2, g3⟩
      obtain ⟨a, h1, h2⟩ := below_cons.mp g1
      exact ⟨a, h1, below_snoc.mpr ⟨x - a, y, h2, g2, by omega⟩⟩
theorem beside_snoc {tx : Int → List Str} {p : PyData} : ∀ {ps : List PyData} {w h : Int}, fitBeside tx (ps ++ [p]) w h ↔ ∃ a b, fitBeside tx ps a h ∧ fitT tx p b h ∧ a + b ≤ w
  | [], w, h => by
    rw [List.nil_append, beside_cons]
    constructor
    · rintro ⟨a, h1, h2⟩
      rw [beside_nil] at h2
      exact ⟨0, a, beside_nil.mpr (Int.le_refl _), h1, by omega⟩
    · rintro ⟨a, b, h1, h2, h3⟩
      rw [beside_nil] at h1
      exact ⟨b, h2, beside_nil.mpr (by omega)⟩
  | q :: ps, w, h => by
    rw [List.cons_append, beside_cons]
    constructor
    · rintro ⟨a, h1, h2⟩
      obtain ⟨x, y, g1, g2, g3⟩ := beside_snoc.mp h2
      exact ⟨a + x, y, beside_cons.mpr ⟨a, h1, by rw [show a + x - a = x by omega]; exact g1⟩, g2, by omega⟩
    · rintro ⟨x, y, g1, g2, g3⟩
      obtain ⟨a, h1, h2⟩ := beside_cons.mp g1
      exact ⟨a, h1, beside_snoc.mpr ⟨x - a, y, h2, g2, by omega⟩⟩

/-! ### laws of what fits -/
theorem numTs_sub {k : Str} : ∀ {ps : List PyData} {ns : List Int}, numTs k ps = some ns → ∀ p, p ∈ ps → ∃ ms, numT k p = some ms
  | [], _, _, p, hp => nomatch hp
  | q :: ps, ns, h, p, hp => by
    obtain ⟨a, b, e1, e2, rfl⟩ := numTs_consI h
    rcases List.mem_cons.mp hp with rfl | hp
    · exact ⟨b, e2⟩
    · exact numTs_sub e1 p hp
theorem tree_ind {P : PyData → Prop} (hi : ∀ i, P (.int i)) (hk : ∀ (k : Str) (ps : List PyData), (k = barS ∨ k = dashS) → 2 ≤ ps.length → (∀ p, p ∈ ps → P p) → P (.tuple [.str k, .tuple ps])) : ∀ {x : PyData} {ab : Str} {ns : List Int}, numT ab x = some ns → P x := by
  have key : ∀ (n : Nat) (x : PyData) (ab : Str) (ns : List Int), nodes x ≤ n → numT ab x = some ns → P x := by
    intro n
    induction n with
    | zero => intro x ab ns h; have := nodes_pos x; omega
    | succ n ih =>
      intro x ab ns h hx
      rcases numT_cases hx with ⟨i, rfl, _⟩ | ⟨k, ps, rfl, hg, hn⟩
      · exact hi i
      · rw [nodes_knot] at h
        have hg2 := of_decide_eq_true hg
        refine hk k ps hg2.1 hg2.2.2 fun p hp => ?_
        obtain ⟨ms, e⟩ := numTs_sub hn p hp
        have := nodess_mem' hp
        exact ih p k ms (by omega) e
  exact fun {x ab ns} h => key _ x ab ns (Nat.le_refl _) h
def Mono (F : Int → Int → Prop) : Prop := ∀ w h w' h', F w h → w ≤ w' → h ≤ h' → F w' h'
def Pos1 (F : Int → Int → Prop) : Prop := ∀ w h, F w h → 1 ≤ w ∧ 1 ≤ h
theorem fitB_mono (ws : List Str) : Mono (fitB ws) := fun w h w' h' ⟨a, b, c, d⟩ hw hh => by
  refine ⟨by omega, by omega, fun v hv => by have := c v hv; omega, ?_⟩
  have := cW_anti (ws := ws) hw c
  omega
theorem below_mono {tx : Int → List Str} : ∀ {ps : List PyData}, (∀ p, p ∈ ps → Mono (fitT tx p)) → Mono (fitBelow tx ps)
  | [], _ => fun w h w' h' q _ hh => by rw [below_nil] at q ⊢; omega
  | p :: ps, hp => fun w h w' h' q hw hh => by
    obtain ⟨a, q1, q2⟩ := below_cons.mp q
    exact below_cons.mpr ⟨a, hp p List.mem_cons_self _ _ _ _ q1 hw (Int.le_refl _), below_mono (fun r hr => hp r (List.mem_cons_of_mem _ hr)) _ _ _ _ q2 hw (by omega)⟩
theorem beside_mono {tx : Int → List Str} : ∀ {ps : List PyData}, (∀ p, p ∈ ps → Mono (fitT tx p)) → Mono (fitBeside tx ps)
  | [], _ => fun w h w' h' q hw _ => by rw [beside_nil] at q ⊢; omega
  | p :: ps, hp => fun w h w' h' q hw hh => by
    obtain ⟨a, q1, q2⟩ := beside_cons.mp q
    exact beside_cons.mpr ⟨a, hp p List.mem_cons_self _ _ _ _ q1 (Int.le_refl _) hh, beside_mono (fun r hr => hp r (List.mem_cons_of_mem _ hr)) _ _ _ _ q2 (by omega) hh⟩
theorem fit_mono (tx : Int → List Str) {x : PyData} {ab : Str} {ns : List Int} (h : numT ab x = some ns) : Mono (fitT tx x) := by
  refine tree_ind (P := fun x => Mono (fitT tx x)) (fun i => fun w h w' h' q hw hh => fitT_int.mpr (fitB_mono _ _ _ _ _ (fitT_int.mp q) hw hh)) (fun k ps hk _ ih => ?_) h
  rcases hk with rfl | rfl
  · exact fun w h w' h' q hw hh => fitT_bar.mpr (beside_mono ih _ _ _ _ (fitT_bar.mp q) hw hh)
  · exact fun w h w' h' q hw hh => fitT_dash.mpr (below_mono ih _ _ _ _ (fitT_dash.mp q) hw hh)
theorem below_pos0 {tx : Int → List Str} : ∀ {ps : List PyData} {w h : Int}, (∀ p, p ∈ ps → Pos1 (fitT tx p)) → fitBelow tx ps w h → (ps.length : Int) ≤ h ∧ (ps ≠ [] → 1 ≤ w)
  | [], w, h, _, q => ⟨below_nil.mp q, fun z => absurd rfl z⟩
  | p :: ps, w, h, hp, q => by
    obtain ⟨a, q1, q2⟩ := below_cons.mp q
    have k1 := hp p List.mem_cons_self _ _ q1
    have k2 := below_pos0 (fun r hr => hp r (List.mem_cons_of_mem _ hr)) q2
    rw [List.length_cons]
    exact ⟨by omega, fun _ => k1.1⟩
theorem beside_pos0 {tx : Int → List Str} : ∀ {ps : List PyData} {w h : Int}, (∀ p, p ∈ ps → Pos1 (fitT tx p)) → fitBeside tx ps w h → (ps.length : Int) ≤ w ∧ (ps ≠ [] → 1 ≤ h)
  | [], w, h, _, q => ⟨beside_nil.mp q, fun z => absurd rfl z⟩
  | p :: ps, w, h, hp, q => by
    obtain ⟨a, q1, q2⟩ := beside_cons.mp q
    have k1 := hp p List.mem_cons_self _ _ q1
    have k2 := beside_pos0 (fun r hr => hp r (List.mem_cons_of_mem _ hr)) q2
    rw [List.length_cons]
    exact ⟨by omega, fun _ => k1.2⟩
theorem fit_pos (tx : Int → List Str) {x : PyData} {ab : Str} {ns : List Int} (h : numT ab x = some ns) : Pos1 (fitT tx x) := by
  refine tree_ind (P := fun x => Pos1 (fitT tx x)) (fun i => fun w h q => ⟨(fitT_int.mp q).1, (fitT_int.mp q).2.1⟩) (fun k ps hk hl ih => ?_) h
  have hne : ps ≠ [] := fun z => by rw [z] at hl; simp at hl
  rcases hk with rfl | rfl
  · intro w h q
    have k := beside_pos0 ih (fitT_bar.mp q)
    exact ⟨by omega, k.2 hne⟩
  · intro w h q
    have k := below_pos0 ih (fitT_dash.mp q)
    exact ⟨k.2 hne, by omega⟩
/-! no more width than all words take -/
def bnd (ws : List Str) : Int := 1 + (ws.map fun v => (v.length : Int) + 1).sum
def bnds (tx : Int → List Str) (ns : List Int) : Int := (ns.map fun i => bnd (tx i)).sum
theorem bnd_tot (ws : List Str) : bnd ws = tot ws + 2 := by unfold bnd tot; omega
theorem bnd_pos (ws : List Str) : 1 ≤ bnd ws := by have := bnd_tot ws; have := tot_ge ws; omega
theorem bnds_app (tx : Int → List Str) (a b : List Int) : bnds tx (a ++ b) = bnds tx a + bnds tx b := by unfold bnds; rw [List.map_append, List.sum_append]
theorem bnds_nn (tx : Int → List Str) : ∀ ns : List Int, 0 ≤ bnds tx ns
  | [] => Int.le_refl _
  | i :: ns => by
    have := bnds_nn tx ns
    have := bnd_pos (tx i)
    show 0 ≤ ((i :: ns).map fun i => bnd (tx i)).sum
    rw [List.map_cons, List.sum_cons]
    unfold bnds at *
    omega
theorem bnds_one (tx : Int → List Str) (i : Int) : bnds tx [i] = bnd (tx i) := by unfold bnds; simp
theorem fitB_stab {ws : List Str} {w h : Int} (q : fitB ws w h) : fitB ws (min w (bnd ws)) h := by
  obtain ⟨a, b, c, d⟩ := q
  by_cases hw : w ≤ bnd ws
  · rw [Int.min_eq_left hw]; exact ⟨a, b, c, d⟩
  · rw [Int.min_eq_right (by omega)]
    have hb := bnd_tot ws
    refine ⟨bnd_pos ws, b, fun v hv => by have := tot_len hv; omega, ?_⟩
    by_cases hne : ws = []
    · subst hne; show ((0 : Nat) : Int) ≤ h; omega
    · rw [cW_tot hne (by omega)]; exact b
theorem below_stab {tx : Int → List Str} {k : Str} : ∀ {ps : List PyData} {ns : List Int}, numTs k ps = some ns → (∀ p, p ∈ ps → ∀ ab ms, numT ab p = some ms → ∀ w h, fitT tx p w h → fitT tx p (min w (bnds tx ms)) h) → ∀ {w h : Int}, fitBelow tx ps w h → fitBelow tx ps (min w (bnds tx ns)) h
  | [], ns, _, _, w, h, q => below_nil.mpr (below_nil.mp q)
  | p :: ps, ns, hn, ih, w, h, q => by
    obtain ⟨a, b, e1, e2, rfl⟩ := numTs_consI hn
    obtain ⟨x, q1, q2⟩ := below_cons.mp q
    have k1 := ih p List.mem_cons_self _ _ e2 _ _ q1
    have k2 := below_stab e1 (fun r hr => ih r (List.mem_cons_of_mem _ hr)) q2
    have na := bnds_nn tx a
    have nb := bnds_nn tx b
    rw [bnds_app]
    exact below_cons.mpr ⟨x, fit_mono tx e2 _ _ _ _ k1 (by omega) (Int.le_refl _), below_mono (fun r hr => by obtain ⟨ms, e⟩ := numTs_sub e1 r hr; exact fit_mono tx e) _ _ _ _ k2 (by omega) (Int.le_refl _)⟩
theorem beside_stab {tx : Int → List Str} {k : Str} : ∀ {ps : List PyData} {ns : List Int}, numTs k ps = some ns → (∀ p, p ∈ ps → ∀ ab ms, numT ab p = some ms → ∀ w h, fitT tx p w h → fitT tx p (min w (bnds tx ms)) h) → ∀ {w h : Int}, fitBeside tx ps w h → fitBeside tx ps (min w (bnds tx ns)) h
  | [], ns, hn, _, w, h, q => by
    rw [numTs_nil] at hn
    cases hn
    have := beside_nil.mp q
    exact beside_nil.mpr (by show 0 ≤ min w 0; omega)
  | p :: ps, ns, hn, ih, w, h, q => by
    obtain ⟨a, b, e1, e2, rfl⟩ := numTs_consI hn
    obtain ⟨x, q1, q2⟩ := beside_cons.mp q
    have k1 := ih p List.mem_cons_self _ _ e2 _ _ q1
    have k2 := beside_stab e1 (fun r hr => ih r (List.mem_cons_of_mem _ hr)) q2
    rw [bnds_app]
    exact beside_cons.mpr ⟨_, k1, beside_mono (fun r hr => by obtain ⟨ms, e⟩ := numTs_sub e1 r hr; exact fit_mono tx e) _ _ _ _ k2 (by omega) (Int.le_refl _)⟩
theorem fit_stab (tx : Int → List Str) {x : PyData} {ab : Str} {ns : List Int} (h : numT ab x = some ns) : ∀ w h, fitT tx x w h → fitT tx x (min w (bnds tx ns)) h := by
  refine tree_ind (P := fun x => ∀ ab ns, numT ab x = some ns → ∀ w h, fitT tx x w h → fitT tx x (min w (bnds tx ns)) h) (fun i ab ns e w h q => ?_) (fun k ps hk hl ih ab ns e w h q => ?_) h _ _ h
  · rw [numT_int] at e
    cases e
    rw [bnds_one]
    exact fitT_int.mpr (fitB_stab (fitT_int.mp q))
  · rcases numT_cases e with ⟨i, e2, _⟩ | ⟨k', ps', e2, _, hn⟩
    · cases e2
    · injection e2 with e2
      injection e2 with e3 e4
      injection e3 with e3
      injection e4 with e4
      injection e4 with e4
      subst e3 e4
      rcases hk with rfl | rfl
      · exact fitT_bar.mpr (beside_stab hn ih (fitT_bar.mp q))
      · exact fitT_dash.mpr (below_stab hn ih (fitT_dash.mp q))
/-! tables of the least heights -/
def TabAt (F : Int → Int → Prop) (w : Int) (o : Option Int) : Prop := ∀ h, F w h ↔ ∃ t, o = some t ∧ t ≤ h
structure Tab (F : Int → Int → Prop) (most : Nat) (os : List (Option Int)) : Prop where
  len : os.length = most + 1
  at' : ∀ (w : Nat) o, os[w]? = some o → TabAt F w o
theorem TabAt.uniq {F : Int → Int → Prop} {w : Int} {o o' : Option Int} (h : TabAt F w o) (h' : TabAt F w o') : o = o' := by
  have e : ∀ y, (∃ t, o = some t ∧ t ≤ y) ↔ ∃ t, o' = some t ∧ t ≤ y := fun y => (h y).symm.trans (h' y)
  cases o with
  | none =>
    cases o' with
    | none => rfl
    | some t =>
      obtain ⟨_, z, _⟩ := (e t).mpr ⟨t, rfl, Int.le_refl _⟩
      cases z
  | some t =>
    obtain ⟨u, rfl, h1⟩ := (e t).mp ⟨t, rfl, Int.le_refl _⟩
    obtain ⟨v, z, h2⟩ := (e u).mpr ⟨u, rfl, Int.le_refl _⟩
    cases z
    rw [show t = u by omega]
theorem Tab.uniq {F : Int → Int → Prop} {most : Nat} {os os' : List (Option Int)} (h : Tab F most os) (h' : Tab F most os') : os = os' := by
  refine List.ext_getElem? fun w => ?_
  by_cases c : w < most + 1
  · have e1 := List.getElem?_eq_getElem (show w < os.length by rw [h.len]; exact c)
    have e2 := List.getElem?_eq_getElem (show w < os'.length by rw [h'.len]; exact c)
    rw [e1, e2, (h.at' w _ e1).uniq (h'.at' w _ e2)]
  · rw [List.getElem?_eq_none (by rw [h.len]; omega), List.getElem?_eq_none (by rw [h'.len]; omega)]
theorem TabAt.congr {F G : Int → Int → Prop} {w : Int} {o : Option Int} (h : TabAt F w o) (e : ∀ y, F w y ↔ G w y) : TabAt G w o := fun y => (e y).symm.trans (h y)
def sumO : Option Int → Option Int → Option Int
  | some a, some b => some (a + b)
  | _, _ => none
theorem TabAt.sum {F G : Int → Int → Prop} {w : Int} {o o' : Option Int} (h : TabAt F w o) (h' : TabAt G w o') : TabAt (fun w y => ∃ a b, F w a ∧ G w b ∧ a + b ≤ y) w (sumO o o') := fun y => by
  constructor
  · rintro ⟨a, b, q1, q2, q3⟩
    obtain ⟨t, rfl, t1⟩ := (h a).mp q1
    obtain ⟨u, rfl, u1⟩ := (h' b).mp q2
    exact ⟨t + u, rfl, by omega⟩
  · rintro ⟨t, e, ht⟩
    cases o with
    | none => cases e
    | some a =>
      cases o' with
      | none => cases e
      | some b =>
        cases e
        exact ⟨a, b, (h a).mpr ⟨a, rfl, Int.le_refl _⟩, (h' b).mpr ⟨b, rfl, Int.le_refl _⟩, ht⟩
/-- the least of the greater ones over all ways to part a width, up to a place -/
def bestL (os os' : List (Option Int)) (w : Nat) : Nat → Option Int
  | 0 => none
  | l + 1 => match (os.getD (l + 1) none), (os'.getD (w - (l + 1)) none) with
    | some a, some b => match bestL os os' w l with
      | none => some (if b > a then b else a)
      | some c => some (if (if b > a then b else a) < c then (if b > a then b else a) else c)
    | _, _ => bestL os os' w l
theorem bestL_succ (os os' : List (Option Int)) (w l : Nat) : bestL os os' w (l + 1) = match (os.getD (l + 1) none), (os'.getD (w - (l + 1)) none) with
  | some a, some b => match bestL os os' w l with
    | none => some (if b > a then b else a)
    | some c => some (if (if b > a then b else a) < c then (if b > a then b else a) else c)
  | _, _ => bestL os os' w l := rfl
theorem bestL_le (os os' : List (Option Int)) (w : Nat) : ∀ (n : Nat) (y : Int), (∃ t, bestL os os' w n = some t ∧ t ≤ y) ↔ ∃ l a b, 1 ≤ l ∧ l ≤ n ∧ os.getD l none = some a ∧ os'.getD (w - l) none = some b ∧ a ≤ y ∧ b ≤ y
  | 0, y => ⟨fun ⟨t, e, _⟩ => (by cases e), fun ⟨l, _, _, h1, h2, _⟩ => by omega⟩
  | n + 1, y => by
    have ih := bestL_le os os' w n y
    have split : (∃ l a b, 1 ≤ l ∧ l ≤ n + 1 ∧ os.getD l none = some a ∧ os'.getD (w - l) none = some b ∧ a ≤ y ∧ b ≤ y) ↔ ((∃ t, bestL os os' w n = some t ∧ t ≤ y) ∨ ∃ a b, os.getD (n + 1) none = some a ∧ os'.getD (w - (n + 1)) none = some b ∧ a ≤ y ∧ b ≤ y) := by
      rw [ih]
      constructor
      · rintro ⟨l, a, b, h1, h2, h3⟩
        by_cases c : l = n + 1
        · subst c; exact .inr ⟨a, b, h3⟩
        · exact .inl ⟨l, a, b, h1, by omega, h3⟩
      · rintro (⟨l, a, b, h1, h2, h3⟩ | ⟨a, b, h3⟩)
        · exact ⟨l, a, b, h1, by omega, h3⟩
        · exact ⟨n + 1, a, b, by omega, Nat.le_refl _, h3⟩
    rw [split, bestL_succ]
    cases e1 : os.getD (n + 1) none with
    | none =>
      exact ⟨fun z => .inl z, fun z => z.elim id fun ⟨a, b, q, _⟩ => (by cases q)⟩
    | some a =>
      cases e2 : os'.getD (w - (n + 1)) none with
      | none => exact ⟨fun z => .inl z, fun z => z.elim id fun ⟨a, b, _, q, _⟩ => (by cases q)⟩
      | some b =>
        dsimp only
        cases e3 : bestL os os' w n with
        | none =>
          constructor
          · rintro ⟨t, e, ht⟩
            cases e
            exact .inr ⟨a, b, rfl, rfl, by split at ht <;> omega, by split at ht <;> omega⟩
          · rintro (⟨t, e, _⟩ | ⟨a', b', q1, q2, q3, q4⟩)
            · cases e
            · cases q1; cases q2
              exact ⟨_, rfl, by split <;> omega⟩
        | some c =>
          constructor
          · rintro ⟨t, e, ht⟩
            cases e
            by_cases d : c ≤ y
            · exact .inl ⟨c, rfl, d⟩
            · exact .inr ⟨a, b, rfl, rfl, by split at ht <;> split at ht <;> omega, by split at ht <;> split at ht <;> omega⟩
          · rintro (⟨t, e, ht⟩ | ⟨a', b', q1, q2, q3, q4⟩)
            · cases e
              exact ⟨_, rfl, by split <;> split <;> omega⟩
            · cases q1; cases q2
              exact ⟨_, rfl, by split <;> split <;> omega⟩
theorem Tab.beside {F G : Int → Int → Prop} {most : Nat} {os os' : List (Option Int)} (h : Tab F most os) (h' : Tab G most os') (mF : Mono F) (mG : Mono G) (pF : Pos1 F) (pG : Pos1 G) {w : Nat} (hw : w ≤ most) : TabAt (fun w y => ∃ a b, F a y ∧ G b y ∧ a + b ≤ w) w (bestL os os' w (w - 1)) := fun y => by
  rw [bestL_le]
  have gt : ∀ {zs : List (Option Int)} {H : Int → Int → Prop} {l : Nat}, Tab H most zs → l ≤ most → ∃ o, zs[l]? = some o ∧ zs.getD l none = o ∧ TabAt H l o := fun {zs H l} t hl => by
    have e := List.getElem?_eq_getElem (show l < zs.length by rw [t.len]; omega)
    exact ⟨_, e, by rw [List.getD_eq_getElem?_getD, e]; rfl, t.at' l _ e⟩
  constructor
  · rintro ⟨a, b, q1, q2, q3⟩
    have p1 := pF _ _ q1
    have p2 := pG _ _ q2
    obtain ⟨l, rfl⟩ := Int.eq_ofNat_of_zero_le (show 0 ≤ a by omega)
    obtain ⟨o, _, g2, g3⟩ := gt h (show l ≤ most by omega)
    obtain ⟨o', _, k2, k3⟩ := gt h' (show w - l ≤ most by omega)
    obtain ⟨t, rfl, ht⟩ := (g3 y).mp q1
    obtain ⟨u, rfl, hu⟩ := (k3 y).mp (mG _ _ _ _ q2 (by omega) (Int.le_refl _))
    exact ⟨l, t, u, by omega, by omega, g2, k2, ht, hu⟩
  · rintro ⟨l, a, b, h1, h2, h3, h4, h5, h6⟩
    obtain ⟨o, _, g2, g3⟩ := gt h (show l ≤ most by omega)
    obtain ⟨o', _, k2, k3⟩ := gt h' (show w - l ≤ most by omega)
    rw [g2] at h3
    rw [k2] at h4
    exact ⟨l, ((w - l : Nat) : Int), (g3 y).mpr ⟨a, h3, h5⟩, (k3 y).mpr ⟨b, h4, h6⟩, by omega⟩

/-! ### joining staircases -/
def Ch (n : Nat) (S : Nat → Int → Int → Prop) (m t : Int) : Prop := ∃ c : Nat → Int, (∀ k : Nat, k < n → ∃ a, a ≤ m ∧ S k a (c k)) ∧ ((List.range n).map c).sum ≤ t
abbrev InS (pre : List (List Int)) (k : Nat) (a f : Int) : Prop := [a, (k : Int), f] ∈ pre
def totO (os : List (Option Int)) : Int := (os.map fun o => o.getD 0).sum
theorem range_sum_le {c d : Nat → Int} : ∀ {n : Nat}, (∀ k, k < n → c k ≤ d k) → ((List.range n).map c).sum ≤ ((List.range n).map d).sum
  | 0, _ => Int.le_refl _
  | n + 1, h => by
    rw [List.range_succ, List.map_append, List.map_append, List.sum_append, List.sum_append]
    have := range_sum_le (c := c) (d := d) (n := n) fun k hk => h k (by omega)
    have := h n (by omega)
    simp only [List.map_cons, List.map_nil, List.sum_cons, List.sum_nil]
    omega
theorem totO_range {os : List (Option Int)} {n : Nat} (h : os.length = n) : totO os = ((List.range n).map fun k => ((os[k]?).getD none).getD 0).sum := by
  unfold totO
  congr 1
  refine List.ext_getElem? fun k => ?_
  rw [List.getElem?_map, List.getElem?_map]
  by_cases c : k < n
  · have e := List.getElem?_eq_getElem (show k < os.length by omega)
    rw [List.getElem?_range c, e]
    show some _ = some (((os[k]?).getD none).getD 0)
    rw [e]
    rfl
  · rw [List.getElem?_eq_none (by omega), List.getElem?_eq_none (by rw [List.length_range]; omega)]
    rfl
structure JNow (n : Nat) (pre : List (List Int)) (os : List (Option Int)) : Prop where
  len : os.length = n
  no : ∀ k : Nat, os[k]? = some none → ∀ a f, ¬ InS pre k a f
  yes : ∀ (k : Nat) (f : Int), os[k]? = some (some f) → (∃ a, InS pre k a f) ∧ ∀ a' f', InS pre k a' f' → f ≤ f'
theorem InS.snoc {pre : List (List Int)} {k j : Nat} {M f a g : Int} : InS (pre ++ [[M, (k : Int), f]]) j a g ↔ InS pre j a g ∨ (a = M ∧ j = k ∧ g = f) := by
  unfold InS
  rw [List.mem_append, List.mem_singleton]
  constructor
  · rintro (h | h)
    · exact .inl h
    · injection h with h1 h
      injection h with h2 h
      injection h with h3 _
      exact .inr ⟨h1, by omega, h3⟩
  · rintro (h | ⟨rfl, rfl, rfl⟩)
    · exact .inl h
    · exact .inr rfl
theorem JNow.start (n : Nat) : JNow n [] (List.replicate n none) := ⟨List.length_replicate, fun k _ a f h => (by cases h), fun k f h => by
  have := List.mem_of_getElem? h
  rw [List.mem_replicate] at this
  cases this.2⟩
theorem JNow.step {n : Nat} {pre : List (List Int)} {os : List (Option Int)} {k : Nat} {M f : Int} (h : JNow n pre os) (hk : k < n) (hf : ∀ a g, InS pre k a g → f ≤ g) : JNow n (pre ++ [[M, (k : Int), f]]) (os.set k (some f)) := by
  have hl := h.len
  refine ⟨by rw [List.length_set]; exact hl, fun j hj a g hs => ?_, fun j g hj => ?_⟩
  · by_cases c : k = j
    · subst c
      rw [List.getElem?_set_self (by omega)] at hj
      cases hj
    · rw [List.getElem?_set_ne c] at hj
      rcases InS.snoc.mp hs with q | ⟨_, q, _⟩
      · exact h.no j hj a g q
      · exact c q.symm
  · by_cases c : k = j
    · subst c
      rw [List.getElem?_set_self (by omega)] at hj
      cases hj
      refine ⟨⟨M, InS.snoc.mpr (.inr ⟨rfl, rfl, rfl⟩)⟩, fun a' f' hs => ?_⟩
      rcases InS.snoc.mp hs with q | ⟨_, _, q⟩
      · exact hf _ _ q
      · omega
    · rw [List.getElem?_set_ne c] at hj
      obtain ⟨⟨a, q1⟩, q2⟩ := h.yes j g hj
      refine ⟨⟨a, InS.snoc.mpr (.inl q1)⟩, fun a' f' hs => ?_⟩
      rcases InS.snoc.mp hs with q | ⟨_, q, _⟩
      · exact q2 _ _ q
      · exact absurd q.symm c
theorem JNow.all {n : Nat} {pre : List (List Int)} {os : List (Option Int)} (h : JNow n pre os) (hn : none ∉ os) {k : Nat} (hk : k < n) : ∃ f, os[k]? = some (some f) := by
  have e := List.getElem?_eq_getElem (show k < os.length by rw [h.len]; exact hk)
  cases q : os[k]'(by rw [h.len]; exact hk) with
  | none => rw [q] at e; exact absurd (List.mem_of_getElem? e) hn
  | some f => exact ⟨f, by rw [e, q]⟩
theorem JNow.low {n : Nat} {pre : List (List Int)} {os : List (Option Int)} (h : JNow n pre os) (hn : none ∉ os) {m t : Int} (c : Ch n (InS pre) m t) : totO os ≤ t := by
  obtain ⟨c, hc, hs⟩ := c
  rw [totO_range h.len]
  refine Int.le_trans (range_sum_le fun k hk => ?_) hs
  obtain ⟨f, e⟩ := h.all hn hk
  obtain ⟨a, _, q⟩ := hc k hk
  rw [e]
  exact (h.yes k f e).2 _ _ q
theorem JNow.high {n : Nat} {pre : List (List Int)} {os : List (Option Int)} (h : JNow n pre os) (hn : none ∉ os) {M m t : Int} (hM : ∀ (j : Nat) a g, InS pre j a g → a ≤ M) (hm : M ≤ m) (ht : totO os ≤ t) : Ch n (InS pre) m t := by
  refine ⟨fun k => ((os[k]?).getD none).getD 0, fun k hk => ?_, by rw [← totO_range h.len]; exact ht⟩
  obtain ⟨f, e⟩ := h.all hn hk
  obtain ⟨⟨a, q⟩, _⟩ := h.yes k f e
  have := hM k a f q
  refine ⟨a, by omega, ?_⟩
  dsimp only
  rw [e]
  exact q
theorem JNow.nothing {n : Nat} {pre : List (List Int)} {os : List (Option Int)} (h : JNow n pre os) (hn : none ∈ os) {m t : Int} : ¬ Ch n (InS pre) m t := fun ⟨c, hc, _⟩ => by
  obtain ⟨k, hk⟩ := List.getElem?_of_mem hn
  have hkn : k < n := by have := (List.getElem?_eq_some_iff.mp hk).1; rw [h.len] at this; exact this
  obtain ⟨a, _, q⟩ := hc k hkn
  exact h.no k hk _ _ q
theorem Ch.grow {n : Nat} {pre : List (List Int)} {s : List Int} {m t : Int} (h : Ch n (InS pre) m t) : Ch n (InS (pre ++ [s])) m t := by
  obtain ⟨c, hc, hs⟩ := h
  refine ⟨c, fun k hk => ?_, hs⟩
  obtain ⟨a, h1, h2⟩ := hc k hk
  exact ⟨a, h1, List.mem_append_left _ h2⟩
structure JInv (n : Nat) (pre : List (List Int)) (os : List (Option Int)) (R : List Sp) : Prop where
  now : JNow n pre os
  sc : Sc R
  up : ∀ m t, Up R m t ↔ Ch n (InS pre) m t
  dom : ∀ p, p ∈ R → ∃ (k : Nat) (f : Int), InS pre k p.1 f
theorem up_nil {m t : Int} : ¬ Up [] m t := fun ⟨_, h, _⟩ => nomatch h
theorem up_snoc {R : List Sp} {p : Sp} {m t : Int} : Up (R ++ [p]) m t ↔ Up R m t ∨ (p.1 ≤ m ∧ p.2 ≤ t) := by
  constructor
  · rintro ⟨q, hq, h1, h2⟩
    rcases List.mem_append.mp hq with hq | hq
    · exact .inl ⟨q, hq, h1, h2⟩
    · rw [List.mem_singleton.mp hq] at h1 h2
      exact .inr ⟨h1, h2⟩
  · rintro (⟨q, hq, h1, h2⟩ | ⟨h1, h2⟩)
    · exact ⟨q, List.mem_append_left _ hq, h1, h2⟩
    · exact ⟨p, List.mem_append_right _ List.mem_cons_self, h1, h2⟩
theorem JInv.start {n : Nat} (hn : 0 < n) : JInv n [] (List.replicate n none) [] := by
  refine ⟨JNow.start n, List.Pairwise.nil, fun m t => ⟨fun h => (up_nil h).elim, fun h => ?_⟩, fun p h => (by cases h)⟩
  exact ((JNow.start n).nothing (List.mem_replicate.mpr ⟨by omega, rfl⟩) h).elim
section
variable {n : Nat} {pre : List (List Int)} {os : List (Option Int)} {R : List Sp} {k : Nat} {M f : Int}
theorem JInv.skip (h : JInv n pre os R) (hk : k < n) (hf : ∀ a g, InS pre k a g → f ≤ g) (hn : none ∈ os.set k (some f)) : JInv n (pre ++ [[M, (k : Int), f]]) (os.set k (some f)) R := by
  have hN := h.now.step (M := M) hk hf
  refine ⟨hN, h.sc, fun m t => ⟨fun q => ((hN.nothing hn) (((h.up m t).mp q).grow)).elim, fun q => ((hN.nothing hn) q).elim⟩, fun p hp => ?_⟩
  obtain ⟨j, g, q⟩ := h.dom p hp
  exact ⟨j, g, InS.snoc.mpr (.inl q)⟩
theorem JInv.new (h : JInv n pre os R) (hk : k < n) (hM : ∀ (j : Nat) a g, InS pre j a g → a ≤ M) (hf : ∀ a g, InS pre k a g → f ≤ g) (hn : none ∉ os.set k (some f)) (m t : Int) : Ch n (InS (pre ++ [[M, (k : Int), f]])) m t ↔ Up R m t ∨ (M ≤ m ∧ totO (os.set k (some f)) ≤ t) := by
  have hN := h.now.step (M := M) hk hf
  constructor
  · intro c
    have hl := hN.low hn c
    obtain ⟨c, hc, hs⟩ := c
    by_cases q : ∀ j : Nat, j < n → ∃ a, a ≤ m ∧ InS pre j a (c j)
    · exact .inl ((h.up m t).mpr ⟨c, q, hs⟩)
    · obtain ⟨j, hj⟩ := Classical.not_forall.mp q
      obtain ⟨hj1, hj2⟩ := Classical.not_imp.mp hj
      obtain ⟨a, h1, h2⟩ := hc j hj1
      rcases InS.snoc.mp h2 with z | ⟨z, _⟩
      · exact (hj2 ⟨a, h1, z⟩).elim
      · exact .inr ⟨by omega, hl⟩
  · rintro (q | ⟨q1, q2⟩)
    · exact ((h.up m t).mp q).grow
    · refine hN.high hn (M := M) (fun j a g z => ?_) q1 q2
      rcases InS.snoc.mp z with z | ⟨z, _⟩
      · exact hM j a g z
      · omega
theorem JInv.domS (h : JInv n pre os R) {t : Int} {g : List Sp} (hg : ∀ p, p ∈ g → p ∈ R) : ∀ p, p ∈ g ++ [(M, t)] → ∃ (j : Nat) (z : Int), InS (pre ++ [[M, (k : Int), f]]) j p.1 z := fun p hp => by
  rcases List.mem_append.mp hp with hp | hp
  · obtain ⟨j, z, q⟩ := h.dom p (hg p hp)
    exact ⟨j, z, InS.snoc.mpr (.inl q)⟩
  · rw [List.mem_singleton.mp hp]
    exact ⟨k, f, InS.snoc.mpr (.inr ⟨rfl, rfl, rfl⟩)⟩
theorem JInv.push0 (h : JInv n pre os []) (hk : k < n) (hM : ∀ (j : Nat) a g, InS pre j a g → a ≤ M) (hf : ∀ a g, InS pre k a g → f ≤ g) (hn : none ∉ os.set k (some f)) : JInv n (pre ++ [[M, (k : Int), f]]) (os.set k (some f)) [(M, totO (os.set k (some f)))] :=
  ⟨h.now.step (M := M) hk hf, List.pairwise_singleton _ _, fun m t => (up_snoc (R := [])).trans (h.new hk hM hf hn m t).symm, h.domS (g := []) fun p hp => hp⟩
theorem JInv.pushT {g : List Sp} {l : Sp} (h : JInv n pre os (g ++ [l])) (hk : k < n) (hM : ∀ (j : Nat) a g, InS pre j a g → a ≤ M) (hf : ∀ a g, InS pre k a g → f ≤ g) (hn : none ∉ os.set k (some f)) (hl : l.1 = M) :
    (∀ p, p ∈ g → totO (os.set k (some f)) < p.2) ∧ JInv n (pre ++ [[M, (k : Int), f]]) (os.set k (some f)) (g ++ [(M, totO (os.set k (some f)))]) := by
  have hN := h.now.step (M := M) hk hf
  have hll : totO (os.set k (some f)) ≤ l.2 := hN.low hn (((h.up M l.2).mp ⟨l, List.mem_append_right _ List.mem_cons_self, by omega, Int.le_refl _⟩).grow)
  obtain ⟨s1, _, s3⟩ := List.pairwise_append.mp h.sc
  have hg : ∀ p, p ∈ g → p.1 < M ∧ totO (os.set k (some f)) < p.2 := fun p hp => by
    have := s3 p hp l List.mem_cons_self
    omega
  refine ⟨fun p hp => (hg p hp).2, hN, List.pairwise_append.mpr ⟨s1, List.pairwise_singleton _ _, fun p hp q hq => by rw [List.mem_singleton.mp hq]; exact hg p hp⟩, fun m t => ?_, h.domS fun p hp => List.mem_append_left _ hp⟩
  rw [h.new hk hM hf hn m t, up_snoc, up_snoc]
  constructor
  · rintro (q | q)
    · exact .inl (.inl q)
    · exact .inr q
  · rintro ((q | ⟨q1, q2⟩) | q)
    · exact .inl q
    · exact .inr ⟨by show M ≤ m; omega, by show _ ≤ t; omega⟩
    · exact .inr q
theorem JInv.lastLe {g : List Sp} {l : Sp} (h : JInv n pre os (g ++ [l])) (hM : ∀ (j : Nat) a g, InS pre j a g → a ≤ M) : l.1 ≤ M := by
  obtain ⟨j, z, q⟩ := h.dom l (List.mem_append_right _ List.mem_cons_self)
  exact hM _ _ _ q
theorem JInv.pushN {g : List Sp} {l : Sp} (h : JInv n pre os (g ++ [l])) (hk : k < n) (hM : ∀ (j : Nat) a g, InS pre j a g → a ≤ M) (hf : ∀ a g, InS pre k a g → f ≤ g) (hn : none ∉ os.set k (some f)) (hl : ¬ l.1 = M) (ht : totO (os.set k (some f)) < l.2) :
    JInv n (pre ++ [[M, (k : Int), f]]) (os.set k (some f)) (g ++ [l] ++ [(M, totO (os.set k (some f)))]) := by
  have hlM := h.lastLe hM
  obtain ⟨s1, _, s3⟩ := List.pairwise_append.mp h.sc
  refine ⟨h.now.step (M := M) hk hf, List.pairwise_append.mpr ⟨h.sc, List.pairwise_singleton _ _, fun p hp q hq => ?_⟩, fun m t => by rw [h.new hk hM hf hn m t]; exact up_snoc, h.domS fun p hp => hp⟩
  rw [List.mem_singleton.mp hq]
  rcases List.mem_append.mp hp with hp | hp
  · have := s3 p hp l List.mem_cons_self
    exact ⟨by dsimp only; omega, by dsimp only; omega⟩
  · rw [List.mem_singleton.mp hp]
    exact ⟨by dsimp only; omega, ht⟩
theorem JInv.keep {g : List Sp} {l : Sp} (h : JInv n pre os (g ++ [l])) (hk : k < n) (hM : ∀ (j : Nat) a g, InS pre j a g → a ≤ M) (hf : ∀ a g, InS pre k a g → f ≤ g) (hn : none ∉ os.set k (some f)) (ht : ¬ totO (os.set k (some f)) < l.2) :
    JInv n (pre ++ [[M, (k : Int), f]]) (os.set k (some f)) (g ++ [l]) := by
  have hlM := h.lastLe hM
  refine ⟨h.now.step (M := M) hk hf, h.sc, fun m t => ?_, fun p hp => ?_⟩
  · rw [h.new hk hM hf hn m t]
    refine ⟨.inl, fun q => q.elim id fun ⟨q1, q2⟩ => ⟨l, List.mem_append_right _ List.mem_cons_self, by omega, by omega⟩⟩
  · obtain ⟨j, z, q⟩ := h.dom p hp
    exact ⟨j, z, InS.snoc.mpr (.inl q)⟩
end
/-! what all steps tell -/
def stepsOf (parts : List (List Sp)) : List (List Int) := ((enL parts).map fun q => q.2.map fun p : Sp => [p.1, (q.1 : Int), p.2]).flatten
theorem enL_mem' {α : Type} {as : List α} {k : Nat} {a : α} : (k, a) ∈ enL as ↔ as[k]? = some a := by
  constructor
  · intro h
    obtain ⟨i, hi⟩ := List.getElem?_of_mem h
    obtain ⟨e1, e2⟩ := enL_at hi
    dsimp only at e1 e2
    rw [e1]
    exact e2
  · intro h
    have hl := (List.getElem?_eq_some_iff.mp h).1
    have hl2 : k < (enL as).length := by rw [enL_len]; exact hl
    have e := List.getElem?_eq_getElem hl2
    obtain ⟨e1, e2⟩ := enL_at e
    rw [h] at e2
    have : (enL as)[k] = (k, a) := Prod.ext e1 (Option.some.inj e2).symm
    rw [← this]
    exact List.getElem_mem _
theorem InS.steps {parts : List (List Sp)} {k : Nat} {a f : Int} : InS (stepsOf parts) k a f ↔ ∃ P, parts[k]? = some P ∧ (a, f) ∈ P := by
  unfold InS stepsOf
  rw [List.mem_flatten]
  constructor
  · rintro ⟨l, hl, h⟩
    obtain ⟨⟨j, P⟩, hq, rfl⟩ := List.mem_map.mp hl
    obtain ⟨p, hp, e⟩ := List.mem_map.mp h
    injection e with e1 e
    injection e with e2 e
    injection e with e3 _
    dsimp only at e2
    have ej : j = k := by omega
    subst ej
    refine ⟨P, enL_mem'.mp hq, ?_⟩
    rw [← e1, ← e3]
    exact hp
  · rintro ⟨P, hP, hp⟩
    exact ⟨_, List.mem_map.mpr ⟨(k, P), enL_mem'.mpr hP, rfl⟩, List.mem_map.mpr ⟨(a, f), hp, rfl⟩⟩
theorem steps_form {parts : List (List Sp)} {s : List Int} (h : s ∈ stepsOf parts) : ∃ (k : Nat) (a f : Int), s = [a, (k : Int), f] ∧ k < parts.length ∧ ∃ P, parts[k]? = some P ∧ (a, f) ∈ P := by
  unfold stepsOf at h
  obtain ⟨l, hl, h⟩ := List.mem_flatten.mp h
  obtain ⟨⟨j, P⟩, hq, rfl⟩ := List.mem_map.mp hl
  obtain ⟨p, hp, e⟩ := List.mem_map.mp h
  have hP := enL_mem'.mp hq
  exact ⟨j, p.1, p.2, e.symm, (List.getElem?_eq_some_iff.mp hP).1, P, hP, hp⟩
def JS : List (List Sp) → Int → Int → Prop
  | [], _, t => 0 ≤ t
  | P :: Ps, m, t => ∃ a, Up P m a ∧ JS Ps m (t - a)
theorem Ch_JS : ∀ {parts : List (List Sp)} {m t : Int}, Ch parts.length (fun k a f => ∃ P, parts[k]? = some P ∧ (a, f) ∈ P) m t ↔ JS parts m t
  | [], m, t => ⟨fun ⟨c, _, h⟩ => h, fun h => ⟨fun _ => 0, fun k hk => absurd hk (Nat.not_lt_zero k), h⟩⟩
  | P :: Ps, m, t => by
    have ih := fun t => Ch_JS (parts := Ps) (m := m) (t := t)
    have er : ∀ c : Nat → Int, ((List.range (P :: Ps).length).map c).sum = c 0 + ((List.range Ps.length).map fun k => c (k + 1)).sum := fun c => by
      rw [List.length_cons, List.range_succ_eq_map, List.map_cons, List.sum_cons, List.map_map]
      rfl
    constructor
    · rintro ⟨c, hc, hs⟩
      rw [er] at hs
      obtain ⟨a, h1, Q, hQ, hq⟩ := hc 0 (by rw [List.length_cons]; omega)
      cases hQ
      refine ⟨c 0, ⟨(a, c 0), hq, h1, Int.le_refl _⟩, (ih _).mp ⟨fun k => c (k + 1), fun k hk => ?_, by omega⟩⟩
      obtain ⟨b, g1, Q', hQ', hq'⟩ := hc (k + 1) (by rw [List.length_cons]; omega)
      exact ⟨b, g1, Q', hQ', hq'⟩
    · rintro ⟨a, ⟨p, hp, h1, h2⟩, hJ⟩
      obtain ⟨c, hc, hs⟩ := (ih _).mpr hJ
      refine ⟨fun k => match k with | 0 => p.2 | k + 1 => c k, fun k hk => ?_, ?_⟩
      · cases k with
        | zero => exact ⟨p.1, h1, P, rfl, hp⟩
        | succ k =>
          obtain ⟨b, g1, Q', hQ', hq'⟩ := hc k (by rw [List.length_cons] at hk; omega)
          exact ⟨b, g1, Q', hQ', hq'⟩
      · rw [er]
        have hs2 : ((List.range Ps.length).map fun k => (fun k : Nat => match k with | 0 => p.2 | k + 1 => c k) (k + 1)).sum ≤ t - a := hs
        exact Int.le_trans (Int.add_le_add h2 hs2) (by omega)
theorem JInv.done {parts : List (List Sp)} {pre : List (List Int)} {os : List (Option Int)} {R : List Sp} (h : JInv parts.length pre os R) (hp : pre.Perm (stepsOf parts)) : Stairs R (JS parts) := by
  refine ⟨h.sc, fun m t => (h.up m t).trans (Iff.trans ?_ Ch_JS)⟩
  have e : ∀ (k : Nat) (a f : Int), InS pre k a f ↔ ∃ P, parts[k]? = some P ∧ (a, f) ∈ P := fun k a f => (hp.mem_iff).trans InS.steps
  unfold Ch
  simp only [e]
def swp (p : Sp) : Sp := (p.2, p.1)
theorem up_swap {P : List Sp} {x y : Int} : Up (P.map swp) x y ↔ Up P y x := by
  constructor
  · rintro ⟨p, hp, h1, h2⟩
    obtain ⟨q, hq, rfl⟩ := List.mem_map.mp hp
    exact ⟨q, hq, h2, h1⟩
  · rintro ⟨q, hq, h1, h2⟩
    exact ⟨swp q, List.mem_map.mpr ⟨q, hq, rfl⟩, h2, h1⟩
theorem up_rev {P : List Sp} {x y : Int} : Up P.reverse x y ↔ Up P x y := by
  unfold Up
  simp only [List.mem_reverse]
theorem Stairs.flip {R : List Sp} {F : Int → Int → Prop} (h : Stairs R F) : Stairs (R.map swp).reverse fun x y => F y x := by
  refine ⟨?_, fun x y => by rw [up_rev, up_swap]; exact h.up y x⟩
  unfold Sc
  rw [List.pairwise_reverse, List.pairwise_map]
  exact h.sc.imp fun {p q} z => ⟨z.2, z.1⟩
theorem JS_below {tx : Int → List Str} : ∀ {ps : List PyData} {Rs : List (List Sp)}, ps.length = Rs.length → (∀ (k : Nat) p R, ps[k]? = some p → Rs[k]? = some R → ∀ w h, Up R w h ↔ fitT tx p w h) → ∀ w h, JS Rs w h ↔ fitBelow tx ps w h
  | [], [], _, _, w, h => below_nil.symm
  | [], _ :: _, hl, _, _, _ => by cases hl
  | _ :: _, [], hl, _, _, _ => by cases hl
  | p :: ps, R :: Rs, hl, k, w, h => by
    rw [below_cons]
    have ih := JS_below (tx := tx) (Nat.succ.inj hl) fun j q Q h1 h2 => k (j + 1) q Q h1 h2
    constructor
    · rintro ⟨a, h1, h2⟩
      exact ⟨a, (k 0 p R rfl rfl w a).mp h1, (ih _ _).mp h2⟩
    · rintro ⟨a, h1, h2⟩
      exact ⟨a, (k 0 p R rfl rfl w a).mpr h1, (ih _ _).mpr h2⟩
theorem JS_beside {tx : Int → List Str} : ∀ {ps : List PyData} {Rs : List (List Sp)}, ps.length = Rs.length → (∀ (k : Nat) p R, ps[k]? = some p → Rs[k]? = some R → ∀ w h, Up R w h ↔ fitT tx p w h) → ∀ w h, JS (Rs.map fun R => R.map swp) h w ↔ fitBeside tx ps w h
  | [], [], _, _, w, h => beside_nil.symm
  | [], _ :: _, hl, _, _, _ => by cases hl
  | _ :: _, [], hl, _, _, _ => by cases hl
  | p :: ps, R :: Rs, hl, k, w, h => by
    rw [beside_cons]
    have ih := JS_beside (tx := tx) (Nat.succ.inj hl) fun j q Q h1 h2 => k (j + 1) q Q h1 h2
    constructor
    · rintro ⟨a, h1, h2⟩
      exact ⟨a, (k 0 p R rfl rfl a h).mp (up_swap.mp h1), (ih _ _).mp h2⟩
    · rintro ⟨a, h1, h2⟩
      exact ⟨a, up_swap.mpr ((k 0 p R rfl rfl a h).mpr h1), (ih _ _).mpr h2⟩

/-! ### joined -/
def nfB (b : Bool) (p : Sp) : Sp := if b then swp p else p
def partD (P : List Sp) : PyData := .list (P.map spD)
def stepsB (b : Bool) (pre : List (Nat × List Sp)) : List (List Int) := (pre.map fun q => q.2.map fun p : Sp => [(nfB b p).1, (q.1 : Int), (nfB b p).2]).flatten
theorem stepsB_all (b : Bool) (Rs : List (List Sp)) : stepsB b (enL Rs) = stepsOf (Rs.map fun P => P.map (nfB b)) := by
  unfold stepsB stepsOf
  congr 1
  have e : enL (Rs.map fun P => P.map (nfB b)) = (enL Rs).map fun q => (q.1, q.2.map (nfB b)) := by
    unfold enL
    rw [List.length_map, List.zip_map_right]
    rfl
  rw [e, List.map_map]
  refine List.map_congr_left fun q _ => ?_
  show _ = (q.2.map (nfB b)).map _
  rw [List.map_map]
  rfl
theorem stepsB_snoc (b : Bool) (pre : List (Nat × List Sp)) (k : Nat) (P : List Sp) : stepsB b (pre ++ [(k, P)]) = stepsB b pre ++ P.map fun p : Sp => [(nfB b p).1, (k : Int), (nfB b p).2] := by
  unfold stepsB
  rw [List.map_append, List.flatten_append, List.map_singleton, List.flatten_singleton]
theorem stepsB_len (b : Bool) {m : Nat} : ∀ {pre : List (Nat × List Sp)}, (∀ q, q ∈ pre → q.2.length ≤ m) → (stepsB b pre).length ≤ m * pre.length
  | [], _ => Nat.zero_le _
  | q :: pre, h => by
    have := stepsB_len b (pre := pre) fun r hr => h r (List.mem_cons_of_mem _ hr)
    have := h q List.mem_cons_self
    have e : (stepsB b (q :: pre)).length = q.2.length + (stepsB b pre).length := by
      unfold stepsB
      rw [List.map_cons, List.flatten_cons, List.length_append, List.length_map]
    rw [e, List.length_cons, Nat.mul_succ]
    omega
theorem anti_nf {b : Bool} {P : List Sp} (h : Sc P) {p q : Sp} (hp : p ∈ P.map (nfB b)) (hq : q ∈ P.map (nfB b)) (h1 : p.1 ≤ q.1) : q.2 ≤ p.2 := by
  obtain ⟨p', hp', rfl⟩ := List.mem_map.mp hp
  obtain ⟨q', hq', rfl⟩ := List.mem_map.mp hq
  obtain ⟨i, hi, rfl⟩ := List.getElem_of_mem hp'
  obtain ⟨j, hj, rfl⟩ := List.getElem_of_mem hq'
  have k := List.pairwise_iff_getElem.mp h
  have e : i = j ∨ i < j ∨ j < i := by omega
  cases b
  · have h1 : P[i].1 ≤ P[j].1 := h1
    show P[j].2 ≤ P[i].2
    rcases e with c | c | c
    · subst c; exact Int.le_refl _
    · have := k i j hi hj c; omega
    · have := k j i hj hi c; omega
  · have h1 : P[i].2 ≤ P[j].2 := h1
    show P[j].1 ≤ P[i].1
    rcases e with c | c | c
    · subst c; exact Int.le_refl _
    · have := k i j hi hj c; omega
    · have := k j i hj hi c; omega
theorem leI_hd {a b : Int} {as bs : List Int} (h : leI (a :: as) (b :: bs)) : a ≤ b := by
  have h2 : lexI (b :: bs) (a :: as) = false := h
  have h3 : (if b = a then lexI bs as else decide (b < a)) = false := h2
  by_cases c : b = a
  · omega
  · rw [if_neg c] at h3
    have := of_decide_eq_false h3
    omega
theorem opts_ints {os : List (Option Int)} (h : none ∉ os) : os.map optD = (os.map fun o => o.getD 0).map .int := by
  rw [List.map_map]
  refine List.map_congr_left fun o ho => ?_
  cases o with
  | none => exact absurd ho h
  | some i => rfl
def G_joined : GF := fun ls Po _ => ∃ (Rs : List (List Sp)) (b : Bool), ls = [.d (.list (Rs.map partD)), .d (.int (if b then 1 else 0)), .d (.int (if b then 0 else 1))] ∧ (0 < Rs.length ∧ Rs.length ≤ 24 ∧ ∀ P, P ∈ Rs → Sc P ∧ P.length ≤ 15000) ∧
  ∀ R, Stairs R (JS (Rs.map fun P => P.map (nfB b))) → R.length ≤ 360000 → Po (.new (R.map spD)) []
theorem ok_joined (T : Txt K mg) : FnOk P w K mg base CX0 1 T.f_joined T.fd_joined ["parts", "near", "far"] (SpG K none G_joined) := by
  refine T.d_joined.F.ok sc_joined (SpG.len (n := 3) fun ls Po Pe h => by obtain ⟨_, _, rfl, _⟩ := h; rfl) (fun cdv A outer s H vs Q E hr h => ⟨_, (pss_cons (ps_setO (i := 3) sc_joined.nd rfl (.inl rfl) (pe_lst pa_nil))
 (pss_cons (ps_for PassesOwn.never rfl (pi_enum (by rfl) T.b_enumerate (pa_cons (pv 0) pa_nil)) (k_gTup (n := 2) K rfl rfl (pgs_cons (pg_name (i := 4) sc_joined.nd rfl (Or.inr rfl)) (pgs_cons (pg_name (i := 5) sc_joined.nd rfl (Or.inl rfl)) pgs_nil))) (pss_one (ps_expr (k_bm K rfl PySem.F.plainAttrs_list PySem.F.slot_list_extend PySem.F.type_list_extend mt_extend (pv 3) (pa_cons (pe_lc (own := [("stair", 6)]) (g := _) (tt := _) (by rfl) sc_joined.nd (k_piL K rfl (pv 5)) (blkOk_by (N := N_joined) (sc := defScope s_joined) (by decide +kernel)) (fun _ _ _ _ _ => (pg_name (i := 6) sc_joined.nd rfl (Or.inl rfl))) (fun _ _ _ _ _ => pts_nil) (fun _ _ _ _ _ => (pe_tup (pa_cons (pe_ix (k_ix K) (pv 6) (pv 1) (fun _ _ => rfl)) (pa_cons (pv 4) (pa_cons (pe_ix (k_ix K) (pv 6) (pv 2) (fun _ _ => rfl)) pa_nil)))))) pa_nil)))))
 (pss_cons (ps_setLc (i := 7) (own := [("part", 5)]) (g := _) (tt := _) rfl sc_joined.nd rfl rfl (sw_true rfl rfl rfl (by decide +kernel)) (k_piL K rfl (pv 0)) (blkOk_by (N := N_joined) (sc := defScope s_joined) (by decide +kernel)) (fun _ _ _ _ _ => (pg_name (i := 5) sc_joined.nd rfl (Or.inl rfl))) (fun _ _ _ _ _ => pts_nil) (fun _ _ _ _ _ => pe_non))
 (pss_cons (ps_setO (i := 8) sc_joined.nd rfl (.inl rfl) (pe_lst pa_nil))
 (pss_cons (ps_for PassesOwn.never rfl (k_piL K rfl (pe_callB (k_sortTI K) (by rfl) T.b_sorted (by decide +kernel) (pa_cons (pv 3) pa_nil))) (k_gTup (n := 3) K rfl rfl (pgs_cons (pg_name (i := 9) sc_joined.nd rfl (Or.inl rfl)) (pgs_cons (pg_name (i := 4) sc_joined.nd rfl (Or.inr rfl)) (pgs_cons (pg_name (i := 10) sc_joined.nd rfl (Or.inl rfl)) pgs_nil)))) (pss_cons (ps_asg (pv 10) (pg_sub (pv 7) (pv 4) set_list))
 (pss_one (ps_if (pt_cmpR (k_niSeq K) pe_non (pv 7) (by rfl)) (pss_cons (ps_set (i := 11) sc_joined.nd rfl (.inl rfl) (pe_callB (k_sum K rfl rfl) (by rfl) T.b_sum (by decide +kernel) (pa_cons (pv 7) pa_nil)))
 (pss_cons (ps_if (PW.pt (pw_and (pt_cmpR op_gt (pe_callB (k_len K) (by rfl) T.b_len PySem.boot_len (pa_cons (pv 8) pa_nil)) pe_int (nomark _)) (pw_and1 (pt_cmpR (k_eqD K rfl hr.units) (pe_ix (k_ix K) (pe_ix (k_ix K) (pv 8) (pe_un un_neg pe_int) (fun _ _ => rfl)) pe_int (fun _ _ => rfl)) (pv 9) (nomark _))))) (pss_one (ps_expr (k_bm0 K rfl PySem.F.plainAttrs_list PySem.F.slot_list_pop PySem.F.type_list_pop mt_pop (pv 8)))) pss_nil)
 (pss_one (ps_if (PW.pt (pw_or (pt_cmpR (k_eqD K rfl hr.units) (pe_callB (k_len K) (by rfl) T.b_len PySem.boot_len (pa_cons (pv 8) pa_nil)) pe_int (nomark _)) (pw_or1 (pt_cmpR op_lt (pv 11) (pe_ix (k_ix K) (pe_ix (k_ix K) (pv 8) (pe_un un_neg pe_int) (fun _ _ => rfl)) pe_int (fun _ _ => rfl)) (nomark _))))) (pss_one (ps_expr (k_bm K rfl PySem.F.plainAttrs_list PySem.F.slot_list_append PySem.F.type_list_append mt_append (pv 8) (pa_cons (pe_tup (pa_cons (pv 9) (pa_cons (pv 11) pa_nil))) pa_nil)))) pss_nil)))) pss_nil))))
 (pss_one (ps_ret (pv 8)))))))), rd_of h fun B ls Po Pe hB hG hE => ?_⟩)
  obtain ⟨Rs, b, rfl, ⟨hl0, hl1, hRs⟩, q⟩ := hG
  have hat : ∀ p : Sp, ∃ x y, atI [PyData.int p.1, .int p.2] (if b then 1 else 0) = some (.int x) ∧ atI [PyData.int p.1, .int p.2] (if b then 0 else 1) = some (.int y) ∧ nfB b p = (x, y) := fun p => by
    cases b
    · exact ⟨p.1, p.2, rfl, rfl, rfl⟩
    · exact ⟨p.2, p.1, rfl, rfl, rfl⟩
  generalize (if b then (1 : Int) else 0) = nr at hat ⊢
  generalize (if b then (0 : Int) else 1) = fr at hat ⊢
  show WS B K _ [some (.d (.list (Rs.map partD))), some (.d (.int nr)), some (.d (.int fr)), none, none, none, none, none, none, none, none, none] _
  walk_at "sn"
  refine ws_forEn partD ?_
  walk_at "sn"
  refine ⟨fun pre ρ' => ∃ o4 o5 o6 : Option L, ρ' = [some (.d (.list (Rs.map partD))), some (.d (.int nr)), some (.d (.int fr)), some (.own ((stepsB b pre).map tiD)), o4, o5, o6, none, none, none, none, none], ⟨_, _, _, rfl⟩, fun pre a post ρ2 ha hI => ?_, fun ρ2 hI => ?_⟩
  · obtain ⟨o4, o5, o6, rfl⟩ := hI
    obtain ⟨e1, e2, e3⟩ := enL_in ha
    obtain ⟨k, P⟩ := a
    dsimp only at e1 e2
    subst e1
    have hP := (hRs P (List.mem_of_getElem? e2)).2
    have hpl : pre.length < Rs.length := (List.getElem?_eq_some_iff.mp e2).1
    have hsl : (stepsB b pre).length ≤ 15000 * pre.length := stepsB_len b fun q hq => by
      obtain ⟨k', P'⟩ := q
      have hq2 : (k', P') ∈ enL Rs := by rw [ha]; exact List.mem_append_left _ hq
      exact (hRs P' (List.mem_of_getElem? (enL_mem'.mp hq2))).2
    show WG B K _ (.tuple [.int pre.length, .list (P.map spD)]) _ _
    walk_at "sn"
    refine wd_e (we_lcL spD (fun (p : Sp) o => o = some (tiD [(nfB b p).1, (pre.length : Int), (nfB b p).2])) (.name 6) ?_)
    walk_at "sn"
    refine ⟨fun p hp B' hB' => ?_, fun ys hy => ?_⟩
    · obtain ⟨x, y, h1, h2, h3⟩ := hat p
      show WG B' K _ (.tuple [.int p.1, .int p.2]) _ _
      walk_at "sn"
      refine idx_tup h1 ?_
      walk_at "sn"
      refine idx_tup h2 ?_
      walk_at "sn"
      show some _ = some (tiD [(nfB b p).1, (pre.length : Int), (nfB b p).2])
      rw [h3]
      rfl
    have ey := Sel.map (f := fun p : Sp => tiD [(nfB b p).1, (pre.length : Int), (nfB b p).2]) hy
    subst ey
    have es : (stepsB b pre).map tiD ++ P.map (fun p : Sp => tiD [(nfB b p).1, (pre.length : Int), (nfB b p).2]) = (stepsB b (pre ++ [(pre.length, P)])).map tiD := by
      rw [stepsB_snoc, List.map_append, List.map_map]
      rfl
    refine ⟨_, rfl, _, _, rfl, rfl, by rw [List.length_map, List.length_map]; show _ ≤ 1000000; omega, ?_⟩
    rw [es]
    exact ⟨_, _, _, rfl⟩
  · obtain ⟨o4, o5, o6, rfl⟩ := hI
    rw [stepsB_all]
    have hstl : (stepsOf (Rs.map fun P => P.map (nfB b))).length ≤ 360000 := by
      rw [← stepsB_all]
      have := stepsB_len b (pre := enL Rs) (m := 15000) fun q hq => by
        obtain ⟨k', P'⟩ := q
        exact (hRs P' (List.mem_of_getElem? (enL_mem'.mp hq))).2
      rw [enL_len] at this
      omega
    have hanti : ∀ (k : Nat) (a f a' f' : Int), InS (stepsOf (Rs.map fun P => P.map (nfB b))) k a f → InS (stepsOf (Rs.map fun P => P.map (nfB b))) k a' f' → a ≤ a' → f' ≤ f := fun k a f a' f' h1 h2 h3 => by
      obtain ⟨P, hP, hp⟩ := InS.steps.mp h1
      obtain ⟨P', hP', hp'⟩ := InS.steps.mp h2
      rw [hP] at hP'
      cases hP'
      rw [List.getElem?_map] at hP
      cases e : Rs[k]? with
      | none => rw [e] at hP; cases hP
      | some P0 =>
        rw [e] at hP
        cases hP
        exact anti_nf (hRs P0 (List.mem_of_getElem? e)).1 hp hp' h3
    have hform : ∀ s, s ∈ stepsOf (Rs.map fun P => P.map (nfB b)) → ∃ (k : Nat) (a f : Int), s = [a, (k : Int), f] ∧ k < Rs.length := fun s hs => by
      obtain ⟨k, a, f, h1, h2, _⟩ := steps_form hs
      rw [List.length_map] at h2
      exact ⟨k, a, f, h1, h2⟩
    have hdone : ∀ pre os R, JInv Rs.length pre os R → pre.Perm (stepsOf (Rs.map fun P => P.map (nfB b))) → Stairs R (JS (Rs.map fun P => P.map (nfB b))) := fun pre os R h1 h2 => JInv.done (by rw [List.length_map]; exact h1) h2
    generalize stepsOf (Rs.map fun P => P.map (nfB b)) = SS at *
    show WS B K _ [some (.d (.list (Rs.map partD))), some (.d (.int nr)), some (.d (.int fr)), some (.own (SS.map tiD)), o4, o5, o6, none, none, none, none, none] _
    refine ws_seq (ws_asgO (np_of hB (by decide)) (we_lcL partD (fun (_ : List Sp) o => o = some (optD none)) (.name 5) ?_))
    walk_at "sn"
    refine ⟨fun p hp B' hB' => ?_, fun ys hy => ?_⟩
    · walk_at "sn"
      rfl
    have ey := Sel.map (f := fun _ : List Sp => optD none) hy
    subst ey
    have en : Rs.map (fun _ : List Sp => optD none) = (List.replicate Rs.length none).map optD := by rw [List.map_replicate, List.map_const']
    rw [en]
    clear en hy
    refine ⟨_, rfl, ?_⟩
    show WS B K _ [some (.d (.list (Rs.map partD))), some (.d (.int nr)), some (.d (.int fr)), some (.own (SS.map tiD)), o4, o5, o6, some (.own ((List.replicate Rs.length none).map optD)), none, none, none, none] _
    walk_at "sn"
    refine ws_forL tiD ?_
    refine wd_e (we_sortTIO (j := 3) rfl (fun t ht => ?_) fun ts hpm hso => ?_)
    · obtain ⟨k, a, f, rfl, _⟩ := hform t ht
      exact List.cons_ne_nil _ _
    walk_at "sn"
    refine ⟨fun pre ρ' => ∃ (os : List (Option Int)) (R : List Sp) (o4 o5 o6 o9 o10 o11 : Option L), (JInv Rs.length pre os R ∧ R.length ≤ pre.length) ∧ ρ' = [some (.d (.list (Rs.map partD))), some (.d (.int nr)), some (.d (.int fr)), some (.own (SS.map tiD)), o4, o5, o6, some (.own (os.map optD)), some (.own (R.map spD)), o9, o10, o11], ⟨_, [], _, _, _, _, _, _, ⟨JInv.start hl0, Nat.le_refl _⟩, rfl⟩, fun pre a post ρ2 ha hI => ?_, fun ρ2 hI => ?_⟩
    · obtain ⟨os, R, o4, o5, o6, o9, o10, o11, ⟨hJ, hRl⟩, rfl⟩ := hI
      have hin : ∀ s, s ∈ pre → s ∈ SS := fun s hs => hpm.mem_iff.mp (by rw [ha]; exact List.mem_append_left _ hs)
      have hain : a ∈ SS := hpm.mem_iff.mp (by rw [ha]; exact List.mem_append_right _ List.mem_cons_self)
      have hlt : pre.length < 360000 := by
        have := hpm.length_eq
        rw [ha, List.length_append, List.length_cons] at this
        omega
      obtain ⟨k, M, f, rfl, hk⟩ := hform a hain
      have hM : ∀ (j : Nat) a g, InS pre j a g → a ≤ M := fun j a g hs => by
        rw [ha] at hso
        exact leI_hd ((List.pairwise_append.mp hso).2.2 _ hs _ List.mem_cons_self)
      have hf : ∀ a g, InS pre k a g → f ≤ g := fun a g hs => hanti k a g M f (hin _ hs) hain (hM k a g hs)
      have hol := hJ.now.len
      have hin2 : ixN (os.map optD).length (k : Int) = some k := by
        unfold ixN
        rw [List.length_map, if_pos (by omega), if_pos (by omega), Int.toNat_natCast]
      show WG B K _ (.tuple [.int M, .int k, .int f]) _ _
      walk_at "sn"
      refine ⟨_, _, _, rfl, rfl, hin2, ?_⟩
      have eset : (os.map optD).set k (.int f) = (os.set k (some f)).map optD := by rw [List.map_set]; rfl
      rw [eset]
      clear eset hin2
      have J1 := fun h => hJ.skip (M := M) hk hf h
      have J2 := fun h e => (show R = [] → JInv _ _ _ _ from fun e => JInv.push0 (by rw [← e]; exact hJ) hk hM hf h) e
      have J3 := fun g l h e hl => (show R = g ++ [l] → _ from fun e => JInv.pushT (g := g) (l := l) (by rw [← e]; exact hJ) hk hM hf h hl) e
      have J4 := fun g l h e hl ht => (show R = g ++ [l] → _ from fun e => JInv.pushN (g := g) (l := l) (by rw [← e]; exact hJ) hk hM hf h hl ht) e
      have J5 := fun g l h e ht => (show R = g ++ [l] → _ from fun e => JInv.keep (g := g) (l := l) (by rw [← e]; exact hJ) hk hM hf h ht) e
      clear hJ hol hM hf
      generalize os.set k (some f) = os' at *
      show WS B K _ [some (.d (.list (Rs.map partD))), some (.d (.int nr)), some (.d (.int fr)), some (.own (SS.map tiD)), some (.d (.int k)), o5, o6, some (.own (os'.map optD)), some (.own (R.map spD)), some (.d (.int M)), some (.d (.int f)), o11] _
      refine ws_opq fun Z' hnx _ _ _ => ?_
      walk_at "sn"
      refine ws_ifC (none ∉ os') (none ∈ os') ?_ (fun hno => ?_) fun hno => ?_
      · refine wt_test (wd_inNoneO (os := os') rfl ⟨_, rfl, rfl, fun h => ?_, fun h => ?_⟩)
        · simpa using h
        · simpa using h
      · have eo := opts_ints hno
        rw [eo]
        show WS B K _ [some (.d (.list (Rs.map partD))), some (.d (.int nr)), some (.d (.int fr)), some (.own (SS.map tiD)), some (.d (.int k)), o5, o6, some (.own ((os'.map fun o => o.getD 0).map .int)), some (.own (R.map spD)), some (.d (.int M)), some (.d (.int f)), o11] _
        walk_at "sn"
        refine wd_sumO (ns := os'.map fun o => o.getD 0) rfl ?_
        walk_at "sn"
        have hpl2 : ∀ x : List Int, (pre ++ [x]).length = pre.length + 1 := fun x => by rw [List.length_append]; rfl
        have gl : ∀ (g : List Sp) (l : Sp), atI (g.map spD ++ [spD l]) (-1) = some (spD l) := fun g l => atI_last _ _
        rcases snoc_cases R with rfl | ⟨g, l, rfl⟩
        · show WS B K _ [some (.d (.list (Rs.map partD))), some (.d (.int nr)), some (.d (.int fr)), some (.own (SS.map tiD)), some (.d (.int k)), o5, o6, some (.own ((os'.map fun o => o.getD 0).map .int)), some (.own ([] : List PyData)), some (.d (.int M)), some (.d (.int f)), some (.d (.int (totO os')))] _
          refine ws_ifC False True ?_ (fun z => z.elim) fun _ => ?_
          · walk_at "sv"
            · simp at hc
            · exact ⟨rfl, (fun h => nomatch h), fun _ => trivial⟩
          walk_at "sn"
          refine ws_ifC True False ?_ (fun _ => ?_) fun z => z.elim
          · walk_at "sv"
            · exact ⟨rfl, (fun _ => trivial), fun h => nomatch h⟩
            · exact absurd rfl hc
          walk_at "sn"
          rw [← eo]
          exact hnx _ ⟨os', [(M, totO os')], _, _, _, _, _, _, ⟨J2 hno rfl, by rw [hpl2]; exact Nat.le_add_left _ _⟩, rfl⟩
        · rw [List.map_append]
          have hgl : g.length + 1 ≤ pre.length := by rw [List.length_append] at hRl; exact hRl
          have hgm : (g.map spD).length = g.length := List.length_map ..
          show WS B K _ [some (.d (.list (Rs.map partD))), some (.d (.int nr)), some (.d (.int fr)), some (.own (SS.map tiD)), some (.d (.int k)), o5, o6, some (.own ((os'.map fun o => o.getD 0).map .int)), some (.own (g.map spD ++ [spD l])), some (.d (.int M)), some (.d (.int f)), some (.d (.int (totO os')))] _
          refine ws_ifC (l.1 = M) (¬ l.1 = M) ?_ (fun hl => ?_) fun hl => ?_
          · walk_at "sv"
            · refine ⟨_, -1, _, rfl, rfl, gl g l, ?_⟩
              walk_at "sv"
              exact ⟨rfl, (fun h => PyData.int.inj ((eqv_iff rfl rfl).mp h)), fun h z => by rw [z, show PyData.eqv (.int M) (.int M) = true from (eqv_iff rfl rfl).mpr rfl] at h; cases h⟩
            · exfalso
              rw [List.length_append] at hc
              simp only [List.length_cons, List.length_nil] at hc
              omega
          · walk_at "sn"
            refine wd_e (we_pop (y := spD l) rfl (by rw [List.length_append, show [spD l].length = 1 from rfl, Nat.add_sub_cancel, List.getElem?_append_right (Nat.le_refl _), Nat.sub_self]; rfl) ?_)
            rw [List.dropLast_concat]
            obtain ⟨hlow, hJ3⟩ := J3 g l hno rfl hl
            have eR : g.map spD ++ [PyData.tuple [.int M, .int (totO os')]] = (g ++ [(M, totO os')]).map spD := by rw [List.map_append]; rfl
            refine ⟨_, rfl, ?_⟩
            show WS B K _ [some (.d (.list (Rs.map partD))), some (.d (.int nr)), some (.d (.int fr)), some (.own (SS.map tiD)), some (.d (.int k)), o5, o6, some (.own ((os'.map fun o => o.getD 0).map .int)), some (.own (g.map spD)), some (.d (.int M)), some (.d (.int f)), some (.d (.int (totO os')))] _
            refine ws_ifC True False ?_ (fun _ => ?_) fun z => z.elim
            · rcases snoc_cases g with rfl | ⟨g', l', rfl⟩
              · walk_at "sv"
                · exact ⟨rfl, (fun _ => trivial), fun h => nomatch h⟩
                · exact absurd rfl hc
              · rw [List.map_append]
                walk_at "sv"
                · exact ⟨rfl, (fun _ => trivial), fun h => nomatch h⟩
                · refine ⟨_, -1, _, rfl, rfl, gl g' l', ?_⟩
                  walk_at "sv"
                  exact ⟨rfl, (fun _ => trivial), fun h => absurd (hlow l' (by simp)) (of_decide_eq_false h)⟩
            walk_at "sn"
            rw [← eo, eR]
            exact hnx _ ⟨os', g ++ [(M, totO os')], _, _, _, _, _, _, ⟨hJ3, by rw [hpl2, List.length_append]; show g.length + 1 ≤ _; omega⟩, rfl⟩
          · walk_at "sn"
            refine ws_ifC (totO os' < l.2) (¬ totO os' < l.2) ?_ (fun ht => ?_) fun ht => ?_
            · walk_at "sv"
              · exfalso
                have h2 := hc
                rw [List.length_append] at h2
                simp only [List.length_cons, List.length_nil] at h2
                omega
              · refine ⟨_, -1, _, rfl, rfl, gl g l, ?_⟩
                walk_at "sv"
                exact ⟨rfl, (fun h => of_decide_eq_true h), fun h => of_decide_eq_false h⟩
            · have eR : g.map spD ++ [spD l] ++ [PyData.tuple [.int M, .int (totO os')]] = (g ++ [l] ++ [(M, totO os')]).map spD := by rw [List.map_append, List.map_append]; rfl
              walk_at "sn"
              rw [← eo, eR]
              exact hnx _ ⟨os', g ++ [l] ++ [(M, totO os')], _, _, _, _, _, _, ⟨J4 g l hno rfl hl ht, by rw [hpl2, List.length_append, List.length_append]; show g.length + 1 + 1 ≤ _; omega⟩, rfl⟩
            · have eR : g.map spD ++ [spD l] = (g ++ [l]).map spD := by rw [List.map_append]; rfl
              walk_at "sn"
              rw [← eo, eR]
              exact hnx _ ⟨os', g ++ [l], _, _, _, _, _, _, ⟨J5 g l hno rfl ht, by rw [hpl2, List.length_append]; show g.length + 1 ≤ _; omega⟩, rfl⟩
      · walk_at "sn"
        exact hnx _ ⟨os', R, _, _, _, _, _, _, ⟨J1 hno, by rw [List.length_append]; omega⟩, rfl⟩
    · obtain ⟨os, R, o4, o5, o6, o9, o10, o11, ⟨hJ, hRl⟩, rfl⟩ := hI
      walk_at "sn"
      have := hpm.length_eq
      exact q R (hdone _ _ _ hJ hpm) (by omega)

/-! ### stairs_by, measured, tree_stairs, high_for, wide_for -/
theorem Sel.each {α β : Type} {f : β → PyData} {G : α → β → Prop} {as : List α} {ys : List PyData} (s : Sel (fun a o => ∃ b, G a b ∧ o = some (f b)) as ys) : ∃ bs : List β, ys = bs.map f ∧ bs.length = as.length ∧ ∀ (j : Nat) a b, as[j]? = some a → bs[j]? = some b → G a b := by
  induction s with
  | nil => exact ⟨[], rfl, rfl, fun j a b h => (by cases h)⟩
  | @yes a as y ys _ hp ih =>
    obtain ⟨bs, rfl, hl, hG⟩ := ih
    obtain ⟨b, hb, e⟩ := hp
    cases e
    refine ⟨bs ++ [b], by rw [List.map_append]; rfl, by rw [List.length_append, List.length_append, hl]; rfl, fun j x z h1 h2 => ?_⟩
    by_cases c : j < as.length
    · rw [List.getElem?_append_left c] at h1
      rw [List.getElem?_append_left (by omega)] at h2
      exact hG j x z h1 h2
    · have hj := (List.getElem?_eq_some_iff.mp h1).1
      rw [List.length_append] at hj
      simp only [List.length_cons, List.length_nil] at hj
      rw [List.getElem?_append_right (by omega), show j - as.length = 0 by omega] at h1
      rw [List.getElem?_append_right (by omega), show j - bs.length = 0 by omega] at h2
      cases h1
      cases h2
      exact hb
  | no _ hp => obtain ⟨x, _, e⟩ := hp; cases e
def kindJ (k : Str) (Rs : List (List Sp)) (x y : Int) : Prop := if k = dashS then JS Rs x y else JS (Rs.map fun R => R.map swp) y x
theorem map_nf0 (Rs : List (List Sp)) : (Rs.map fun P => P.map (nfB false)) = Rs := by
  rw [show (fun P : List Sp => P.map (nfB false)) = id from funext fun P => List.map_id' P]
  exact List.map_id _
def G_stairs_by : GF := fun ls Po _ => ∃ (k : Str) (Rs : List (List Sp)), ls = [.d (.str k), .d (.list (Rs.map partD))] ∧ ((k = barS ∨ k = dashS) ∧ 0 < Rs.length ∧ Rs.length ≤ 24 ∧ ∀ P, P ∈ Rs → Sc P ∧ P.length ≤ 15000) ∧
  ∀ R, Stairs R (kindJ k Rs) → R.length ≤ 360000 → Po (.new (R.map spD)) []
theorem ok_stairs_by (T : Txt K mg) : FnOk P w K mg base CX0 2 T.f_stairs_by T.fd_stairs_by ["kind", "parts"] (SpG K none G_stairs_by) := by
  refine T.d_stairs_by.F.ok sc_stairs_by (SpG.len (n := 2) fun ls Po Pe h => by obtain ⟨_, _, rfl, _⟩ := h; rfl) (fun cdv A outer s H vs Q E hr h => ⟨_, (pss_cons (ps_if (pt_cmpR (k_eqD K rfl hr.units) (pv 0) pe_str (nomark _)) (pss_one (ps_ret (pe_call (ok_joined T) hr (by rfl) T.d_joined.g T.d_joined.kp T.d_joined.b .nil pass0 (pa_cons (pv 1) (pa_cons pe_int (pa_cons pe_int pa_nil)))))) pss_nil)
 (pss_one (ps_ret (k_back K rfl (pe_lc (own := [("high", 2), ("wide", 3)]) (g := _) (tt := _) (by rfl) sc_stairs_by.nd (k_piL K rfl (pe_call (ok_joined T) hr (by rfl) T.d_joined.g T.d_joined.kp T.d_joined.b .nil pass0 (pa_cons (pv 1) (pa_cons pe_int (pa_cons pe_int pa_nil))))) (blkOk_by (N := N_stairs_by) (sc := defScope s_stairs_by) (by decide +kernel)) (fun _ _ _ _ _ => (k_gTup (n := 2) K rfl rfl (pgs_cons (pg_name (i := 2) sc_stairs_by.nd rfl (Or.inl rfl)) (pgs_cons (pg_name (i := 3) sc_stairs_by.nd rfl (Or.inl rfl)) pgs_nil)))) (fun _ _ _ _ _ => pts_nil) (fun _ _ _ _ _ => (pe_tup (pa_cons (pv 3) (pa_cons (pv 2) pa_nil))))) po_none po_none (po_some (pe_un un_neg pe_int)))))), rd_of h fun B ls Po Pe hB hG hE => ?_⟩)
  obtain ⟨k, Rs, rfl, ⟨hk, h0, h1, hRs⟩, q⟩ := hG
  show WS B K _ [some (.d (.str k)), some (.d (.list (Rs.map partD))), none, none] _
  have okk : OkD 60 (.str k) := .str (strOk_kind hk)
  walk_at "sn"
  refine ws_ifC (k = dashS) (k = barS) ?_ (fun hc => ?_) fun hc => ?_
  · walk_at "sv"
    have okd : OkD 60 (.str (Str.ofString "-")) := .str (strOk_kind (.inr rfl))
    refine ⟨ok2 okk okd, ?_⟩
    refine ⟨_, rfl, rfl, (fun h => PyData.str.inj ((eqv_iff rfl rfl).mp h)), fun h => ?_⟩
    rcases hk with rfl | rfl
    · rfl
    · rw [show PyData.eqv (.str dashS) (.str (Str.ofString "-")) = true from (eqv_iff rfl rfl).mpr rfl] at h
      cases h
  · walk_at "sn"
    refine ⟨Rs, false, rfl, ⟨h0, h1, hRs⟩, fun R hR hl => q R ?_ hl⟩
    rw [map_nf0] at hR
    refine hR.congr fun x y => ?_
    unfold kindJ
    rw [if_pos hc]
  · refine ws_next ?_
    show WS B K _ [some (.d (.str k)), some (.d (.list (Rs.map partD))), none, none] _
    refine ws_ret (we_back ?_)
    walk_at "sn"
    refine wd_e (we_lcL spD (fun (p : Sp) o => o = some (spD (swp p))) (.tup (.cons 2 (.cons 3 .nil))) ?_)
    walk_at "sn"
    refine ⟨Rs, true, rfl, ⟨h0, h1, hRs⟩, fun R hR hl => ?_⟩
    walk_at "sn"
    refine ⟨fun p hp B' hB' => ?_, fun ys hy => ?_⟩
    · show WG B' K _ (.tuple [.int p.1, .int p.2]) _ _
      walk_at "sn"
      rfl
    have ey := Sel.map (f := fun p : Sp => spD (swp p)) hy
    subst ey
    refine ⟨_, rfl, ?_⟩
    walk_at "sn"
    refine ⟨⟨rfl, rfl, rfl⟩, _, rfl, ?_⟩
    have k := q (R.map swp).reverse (hR.flip.congr fun x y => ?_) (by rw [List.length_reverse, List.length_map]; exact hl)
    · rw [List.map_reverse, List.map_map] at k
      exact k
    · unfold kindJ
      rw [if_neg fun z => dash_ne (by rw [← z]; exact hc)]
      exact Iff.rfl
/-- what measured tells of a tree: itself, its staircase, what it tells of its parts -/
inductive Mea (tx : Int → List Str) : PyData → PyData → Prop
  | box (i : Int) (R : List Sp) : Stairs R (fitT tx (.int i)) → Mea tx (.int i) (.tuple [.int i, partD R, .list []])
  | knot (k : Str) (ps ys : List PyData) (R : List Sp) : Stairs R (fitT tx (.tuple [.str k, .tuple ps])) → ys.length = ps.length → (∀ (j : Nat) p y, ps[j]? = some p → ys[j]? = some y → Mea tx p y) → Mea tx (.tuple [.str k, .tuple ps]) (.tuple [.tuple [.str k, .tuple ps], partD R, .list ys])
theorem Mea.st {tx : Int → List Str} {x y : PyData} (h : Mea tx x y) : ∃ R z, y = .tuple [x, partD R, z] ∧ Stairs R (fitT tx x) := by
  cases h with
  | box i R h => exact ⟨R, _, rfl, h⟩
  | knot k ps ys R h _ _ => exact ⟨R, _, rfl, h⟩
theorem Mea.all {tx : Int → List Str} : ∀ {ps ys : List PyData}, ys.length = ps.length → (∀ (j : Nat) p y, ps[j]? = some p → ys[j]? = some y → Mea tx p y) → ∃ Rs : List (List Sp), Rs.length = ps.length ∧ (∀ (j : Nat) p R, ps[j]? = some p → Rs[j]? = some R → Stairs R (fitT tx p)) ∧ ∀ (j : Nat) y R, ys[j]? = some y → Rs[j]? = some R → ∃ p z, y = .tuple [p, partD R, z]
  | [], [], _, _ => ⟨[], rfl, (fun j p R h => by cases h), fun j y R h => by cases h⟩
  | [], _ :: _, h, _ => by cases h
  | _ :: _, [], h, _ => by cases h
  | p :: ps, y :: ys, h, k => by
    obtain ⟨Rs, h1, h2, h3⟩ := Mea.all (Nat.succ.inj h) fun j q z e1 e2 => k (j + 1) q z e1 e2
    obtain ⟨R, z, e, hs⟩ := (k 0 p y rfl rfl).st
    refine ⟨R :: Rs, by rw [List.length_cons, List.length_cons, h1], fun j q Q e1 e2 => ?_, fun j q Q e1 e2 => ?_⟩
    · cases j with
      | zero => cases e1; cases e2; exact hs
      | succ j => exact h2 j q Q e1 e2
    · cases j with
      | zero => cases e1; cases e2; exact ⟨_, _, e⟩
      | succ j => exact h3 j q Q e1 e2
theorem rise_len : ∀ {R : List Sp} {lo hi : Int}, Sc R → lo ≤ hi + 1 → (∀ p, p ∈ R → lo ≤ p.1 ∧ p.1 ≤ hi) → (R.length : Int) ≤ hi - lo + 1
  | [], lo, hi, _, h, _ => by show (0 : Int) ≤ _; omega
  | p :: R, lo, hi, h, _, hb => by
    have h1 := List.pairwise_cons.mp h
    have hp := hb p List.mem_cons_self
    have ih := rise_len (lo := p.1 + 1) (hi := hi) h1.2 (by omega) fun q hq => by
      have := h1.1 q hq
      have := hb q (List.mem_cons_of_mem _ hq)
      omega
    rw [List.length_cons]
    omega
structure TxOk (ts : List (List Str)) : Prop where
  n : ts.length ≤ 24
  l : ∀ ws, ws ∈ ts → ws.length ≤ 40
  w : ∀ ws, ws ∈ ts → ∀ v, v ∈ ws → IsWord v
def txt (ts : List (List Str)) (i : Int) : List Str := ts.getD i.toNat []
def textD (ws : List Str) : PyData := .list (ws.map .str)
theorem TxOk.at' {ts : List (List Str)} (h : TxOk ts) (i : Int) : (txt ts i).length ≤ 40 ∧ ∀ v, v ∈ txt ts i → IsWord v := by
  unfold txt
  rw [List.getD_eq_getElem?_getD]
  cases e : ts[i.toNat]? with
  | none => exact ⟨Nat.zero_le _, fun v hv => nomatch hv⟩
  | some ws => exact ⟨h.l ws (List.mem_of_getElem? e), h.w ws (List.mem_of_getElem? e)⟩
theorem TxOk.bnd {ts : List (List Str)} (h : TxOk ts) (i : Int) : bnd (txt ts i) ≤ 521 := by
  obtain ⟨h1, h2⟩ := h.at' i
  rw [bnd_tot]
  have := tot_le fun v hv => (h2 v hv).2.1
  omega
theorem TxOk.bnds {ts : List (List Str)} (h : TxOk ts) : ∀ ns : List Int, bnds (txt ts) ns ≤ 521 * (ns.length : Int)
  | [] => Int.le_refl _
  | i :: ns => by
    have := TxOk.bnds h ns
    have := h.bnd i
    have e : SV.bnds (txt ts) (i :: ns) = SV.bnd (txt ts i) + SV.bnds (txt ts) ns := by unfold SV.bnds; rw [List.map_cons, List.sum_cons]
    rw [e, List.length_cons]
    omega
theorem stairs_wide {tx : Int → List Str} {x : PyData} {ab : Str} {ns : List Int} {R : List Sp} (hx : numT ab x = some ns) (h : Stairs R (fitT tx x)) : ∀ p, p ∈ R → 1 ≤ p.1 ∧ p.1 ≤ bnds tx ns ∧ 1 ≤ p.2 := fun p hp => by
  have h1 := (h.up p.1 p.2).mp ⟨p, hp, Int.le_refl _, Int.le_refl _⟩
  have h2 := fit_pos tx hx _ _ h1
  obtain ⟨q, hq, q1, q2⟩ := (h.up _ _).mpr (fit_stab tx hx _ _ h1)
  have e := h.sc.anti hq hp (by omega) q2
  subst e
  omega
theorem stairs_len {ts : List (List Str)} (hT : TxOk ts) {x : PyData} {ab : Str} {ns : List Int} {R : List Sp} (hx : numT ab x = some ns) (hn : ns.length ≤ 24) (h : Stairs R (fitT (txt ts) x)) : R.length ≤ 15000 := by
  have h1 := stairs_wide hx h
  have h2 := hT.bnds ns
  have h3 := rise_len (lo := 1) (hi := bnds (txt ts) ns) h.sc (by have := bnds_nn (txt ts) ns; omega) fun p hp => ⟨(h1 p hp).1, (h1 p hp).2.1⟩
  omega
theorem kind_fit {tx : Int → List Str} {k : Str} {ps : List PyData} {Rs : List (List Sp)} (hk : k = barS ∨ k = dashS) (hl : Rs.length = ps.length) (h : ∀ (j : Nat) p R, ps[j]? = some p → Rs[j]? = some R → Stairs R (fitT tx p)) (x y : Int) : kindJ k Rs x y ↔ fitT tx (.tuple [.str k, .tuple ps]) x y := by
  unfold kindJ
  rcases hk with rfl | rfl
  · rw [if_neg fun z => dash_ne z.symm, fitT_bar]
    exact JS_beside hl.symm (fun j p R e1 e2 => (h j p R e1 e2).up) x y
  · rw [if_pos rfl, fitT_dash]
    exact JS_below hl.symm (fun j p R e1 e2 => (h j p R e1 e2).up) x y
theorem numTs_sub2 {k : Str} : ∀ {ps : List PyData} {ns : List Int}, numTs k ps = some ns → ∀ p, p ∈ ps → ∃ ms, numT k p = some ms ∧ ms.length ≤ ns.length ∧ ∀ n, n ∈ ms → n ∈ ns
  | [], _, _, p, hp => nomatch hp
  | q :: ps, ns, h, p, hp => by
    obtain ⟨a, b, e1, e2, rfl⟩ := numTs_consI h
    rw [List.length_append]
    rcases List.mem_cons.mp hp with rfl | hp
    · exact ⟨b, e2, by omega, fun n hn => List.mem_append_right _ hn⟩
    · obtain ⟨ms, g1, g2, g3⟩ := numTs_sub2 e1 p hp
      exact ⟨ms, g1, by omega, fun n hn => List.mem_append_left _ (g3 n hn)⟩
theorem numTs_many {k : Str} : ∀ {ps : List PyData} {ns : List Int}, numTs k ps = some ns → (∀ p, p ∈ ps → ∀ ms, numT k p = some ms → 1 ≤ ms.length) → ps.length ≤ ns.length
  | [], _, _, _ => Nat.zero_le _
  | q :: ps, ns, h, hp => by
    obtain ⟨a, b, e1, e2, rfl⟩ := numTs_consI h
    have := hp q List.mem_cons_self b e2
    have := numTs_many e1 fun r hr => hp r (List.mem_cons_of_mem _ hr)
    rw [List.length_append, List.length_cons]
    omega
theorem num_pos {x : PyData} {ab : Str} {ns : List Int} (h : numT ab x = some ns) : 1 ≤ ns.length := by
  refine tree_ind (P := fun x => ∀ ab ns, numT ab x = some ns → 1 ≤ ns.length) (fun i ab ns e => ?_) (fun k ps hk hl ih ab ns e => ?_) h _ _ h
  · rw [numT_int] at e
    cases e
    exact Nat.le_refl _
  · rcases numT_cases e with ⟨i, e2, _⟩ | ⟨k', ps', e2, _, hn⟩
    · cases e2
    · injection e2 with e2
      injection e2 with e3 e4
      injection e4 with e4
      injection e4 with e4
      subst e4
      have := numTs_many hn fun p hp ms hm => ih p hp _ _ hm
      omega
theorem numTs_le {k : Str} {ps : List PyData} {ns : List Int} (h : numTs k ps = some ns) : ps.length ≤ ns.length := numTs_many h fun p _ ms hm => num_pos hm
theorem spD_inj {p q : Sp} (h : spD p = spD q) : p = q := by
  injection h with h
  injection h with h1 h2
  injection h2 with h2 _
  injection h1 with h1
  injection h2 with h2
  exact Prod.ext h1 h2
theorem partD_inj {R R' : List Sp} (h : partD R = partD R') : R = R' := by
  injection h with h
  induction R generalizing R' with
  | nil => cases R' with
    | nil => rfl
    | cons => cases h
  | cons p R ih => cases R' with
    | nil => cases h
    | cons q R' =>
      injection h with h1 h2
      rw [spD_inj h1, ih h2]
theorem shorts_text {ws : List Str} (h : ∀ v, v ∈ ws → IsWord v) : shortsD (textD ws) := fun x hx => by
  obtain ⟨v, hv, rfl⟩ := List.mem_map.mp hx
  have := (h v hv).2.1
  show v.length ≤ 100000
  omega
def G_measR (d : Nat) : GF := fun ls Po _ => ∃ (x : PyData) (ts : List (List Str)) (ab : Str) (ns : List Int), ls = [.d x, .d (.list (ts.map textD))] ∧ (numT ab x = some ns ∧ ns.length ≤ 24 ∧ nodes x ≤ 3 * d ∧ d ≤ 1000 ∧ TxOk ts ∧ ∀ n, n ∈ ns → 0 ≤ n ∧ n < (ts.length : Int)) ∧ ∀ y, Mea (txt ts) x y → Po (.d y) []
theorem rec_measured (T : Txt K mg) (d : Nat) : FnOk P w K mg base CX0 (4 + d) T.f_measured T.fd_measured ["tree", "texts"] (SpG K none (G_measR d)) := by
  induction d with
  | zero => exact fn_none fun ls Po Pe ⟨x, ts, ab, ns, _, ⟨_, _, h, _⟩, _⟩ => by have := nodes_pos x; omega
  | succ d ih =>
    refine T.d_measured.F.ok (k := 4 + d) sc_measured (SpG.len (n := 2) fun ls Po Pe h => by obtain ⟨_, _, _, _, rfl, _⟩ := h; rfl) (fun cdv A outer s H vs Q E hr h => ⟨_, (pss_cons (ps_if (pt_val (pe_call (ok_is_whole T) (hr.mono (by omega)) (by rfl) T.d_is_whole.g T.d_is_whole.kp T.d_is_whole.b .nil pass0 (pa_cons (pv 0) pa_nil))) (pss_one (ps_ret (pe_tup (pa_cons (pv 0) (pa_cons (pe_call (ok_text_stairs T) (hr.mono (by omega)) (by rfl) T.d_text_stairs.g T.d_text_stairs.kp T.d_text_stairs.b .nil passL (pa_cons (pe_ix (k_ix K) (pv 1) (pv 0) (fun _ _ => rfl)) pa_nil)) (pa_cons (pe_lst pa_nil) pa_nil)))))) pss_nil)
 (pss_cons (ps_setLc (i := 2) (own := [("part", 3)]) (g := _) (tt := _) rfl sc_measured.nd rfl rfl (sw_true rfl rfl rfl (by decide +kernel)) (k_piT K rfl (pe_ix (k_ix K) (pv 0) pe_int (fun _ _ => rfl))) (blkOk_by (N := N_measured) (sc := defScope s_measured) (by decide +kernel)) (fun _ _ _ _ _ => (pg_name (i := 3) sc_measured.nd rfl (Or.inl rfl))) (fun _ _ _ _ _ => pts_nil) (fun _ _ _ _ _ => (pe_call ih hr (by rfl) T.d_measured.g T.d_measured.kp T.d_measured.b .nil pass0 (pa_cons (pv 3) (pa_cons (pv 1) pa_nil)))))
 (pss_one (ps_ret (pe_tup (pa_cons (pv 0) (pa_cons (pe_call (ok_stairs_by T) (hr.mono (by omega)) (by rfl) T.d_stairs_by.g T.d_stairs_by.kp T.d_stairs_by.b .nil pass0 (pa_cons (pe_ix (k_ix K) (pv 0) pe_int (fun _ _ => rfl)) (pa_cons (pe_lc (own := [("part", 3)]) (g := _) (tt := _) (by rfl) sc_measured.nd (k_piL K rfl (pv 2)) (blkOk_by (N := N_measured) (sc := defScope s_measured) (by decide +kernel)) (fun _ _ _ _ _ => (pg_name (i := 3) sc_measured.nd rfl (Or.inl rfl))) (fun _ _ _ _ _ => pts_nil) (fun _ _ _ _ _ => (pe_ix (k_ix K) (pv 3) pe_int (fun _ _ => rfl)))) pa_nil))) (pa_cons (pv 2) pa_nil)))))))), rd_of h fun B ls Po Pe hB hG hE => ?_⟩)
    obtain ⟨x, ts, ab, ns, rfl, ⟨hx, hnl, hn, hd, hT, hns⟩, q⟩ := hG
    show WS B K _ [some (.d x), some (.d (.list (ts.map textD))), none, none] _
    rcases numT_cases hx with ⟨i, rfl, rfl⟩ | ⟨k, ps, rfl, hg, hps⟩
    · obtain ⟨i0, i1⟩ := hns i List.mem_cons_self
      obtain ⟨h40, hww⟩ := hT.at' i
      have hti : atI (ts.map textD) i = some (textD (txt ts i)) := by
        obtain ⟨j, rfl⟩ := Int.eq_ofNat_of_zero_le i0
        refine atI_nat ?_
        rw [List.getElem?_map, List.getElem?_eq_getElem (by omega)]
        unfold txt
        rw [List.getD_eq_getElem?_getD, Int.toNat_natCast, List.getElem?_eq_getElem (by omega)]
        rfl
      walk_at "sv"
      refine ⟨_, rfl, _, rfl, ?_⟩
      walk_at "sv"
      refine idx_list hti ?_
      walk_at "sv"
      refine ⟨_, rfl, shorts_text hww, .inr ⟨txt ts i, rfl, hww, by omega, fun e => ⟨_, rfl, ?_⟩, fun hne m hm => ⟨_, rfl, ?_⟩⟩⟩
      · walk_at "sv"
        exact q _ (.box i [(1, 1)] (box_nil.congr fun x y => by rw [fitT_int, e]))
      · walk_at "sv"
        rw [← spD_toSp]
        exact q _ (.box i _ ((box_words hne hww hm).congr fun x y => by rw [fitT_int]))
    · rw [nodes_knot] at hn
      have hk := (of_decide_eq_true hg).1
      have hpl := numTs_le hps
      have hp2 := (of_decide_eq_true hg).2.2
      walk_at "sv"
      refine ⟨_, rfl, _, rfl, ?_⟩
      walk_at "sv"
      refine wd_e (we_lcT id (fun p o => ∃ y, Mea (txt ts) p y ∧ o = some (id y)) (.name 3) ?_)
      walk_at "sv"
      refine ⟨ps, by rw [List.map_id], by show ps.length ≤ 1000000; omega, fun p hp B' hB' => ?_, fun zs hz => ?_⟩
      · obtain ⟨ms, e1, e2, e3⟩ := numTs_sub2 hps p hp
        have h1 := nodess_mem' hp
        walk_at "sv"
        exact ⟨p, ts, k, ms, rfl, ⟨e1, by omega, by omega, by omega, hT, fun n hn => hns n (e3 n hn)⟩, fun y hy => ⟨_, rfl, y, hy, rfl⟩⟩
      · obtain ⟨ys, rfl, hyl, hym⟩ := Sel.each hz
        rw [List.map_id]
        refine ⟨_, rfl, ?_⟩
        obtain ⟨Rs, hRl, hRs, hRy⟩ := Mea.all hyl hym
        walk_at "sv"
        refine wd_e (we_lcL id (fun y o => ∃ R, (∃ p z, y = PyData.tuple [p, partD R, z]) ∧ o = some (partD R)) (.name 3) ?_)
        walk_at "sv"
        refine ⟨ys, by rw [List.map_id], by show ys.length ≤ 1000000; omega, fun y hy B' hB' => ?_, fun zs hz2 => ?_⟩
        · obtain ⟨j, hj⟩ := List.getElem?_of_mem hy
          have hjl := (List.getElem?_eq_some_iff.mp hj).1
          obtain ⟨p, z, e⟩ := hRy j y _ hj (List.getElem?_eq_getElem (show j < Rs.length by omega))
          subst e
          walk_at "sv"
          exact ⟨_, ⟨p, z, rfl⟩, rfl⟩
        · obtain ⟨Qs, rfl, hQl, hQ⟩ := Sel.each (f := partD) hz2
          have eQ : Qs = Rs := by
            refine List.ext_getElem? fun j => ?_
            by_cases c : j < ys.length
            · have e1 := List.getElem?_eq_getElem c
              have e2 := List.getElem?_eq_getElem (show j < Qs.length by omega)
              have e3 := List.getElem?_eq_getElem (show j < Rs.length by omega)
              obtain ⟨p, z, g1⟩ := hQ j _ _ e1 e2
              obtain ⟨p', z', g2⟩ := hRy j _ _ e1 e3
              rw [g1] at g2
              injection g2 with g2
              injection g2 with _ g2
              injection g2 with g2 _
              rw [e2, e3, partD_inj g2]
            · rw [List.getElem?_eq_none (by omega), List.getElem?_eq_none (by omega)]
          subst eQ
          refine ⟨_, rfl, ?_⟩
          walk_at "sv"
          refine ⟨k, Qs, rfl, ⟨hk, by omega, by omega, fun P hP => ?_⟩, fun R hR _ => ⟨_, rfl, ?_⟩⟩
          · obtain ⟨j, hj⟩ := List.getElem?_of_mem hP
            have hjl := (List.getElem?_eq_some_iff.mp hj).1
            have e1 := List.getElem?_eq_getElem (show j < ps.length by omega)
            have hS := hRs j _ _ e1 hj
            obtain ⟨ms, g1, g2, g3⟩ := numTs_sub2 hps _ (List.mem_of_getElem? e1)
            exact ⟨hS.sc, stairs_len hT g1 (by omega) hS⟩
          · walk_at "sv"
            exact q _ (.knot k ps ys R (hR.congr (kind_fit hk hRl hRs)) hyl hym)

theorem ok_measured (T : Txt K mg) : FnOk P w K mg base CX0 60 T.f_measured T.fd_measured ["tree", "texts"] (SpG K none (G_measR 56)) := rec_measured T 56
/-- a tree and its texts, as they should be -/
structure TrTx (x : PyData) (ts : List (List Str)) (ns : List Int) : Prop where
  num : numT Str.empty x = some ns
  good : GoodNs ns
  sn : SN 100000 x
  len : ts.length = ns.length
  tx : TxOk ts
def G_need_measured : GF := fun ls Po _ => ∃ (x : PyData) (ts : List (List Str)) (ns : List Int), ls = [.d x, .d (.list (ts.map textD))] ∧ TrTx x ts ns ∧ ∀ y, Mea (txt ts) x y → Po (.d y) []
theorem ok_need_measured (T : Txt K mg) : FnOk P w K mg base (L2.CX P w) 61 T.f_need_measured T.fd_need_measured ["tree", "texts"] (SpG K none G_need_measured) := by
  refine T.d_need_measured.F.okX sc_need_measured (SpG.len (n := 2) fun ls Po Pe h => by obtain ⟨_, _, _, rfl, _⟩ := h; rfl) (fun cdv A outer s H vs Q E hr h => ⟨_, (pss_cons (ps_set (i := 2) sc_need_measured.nd rfl (.inl rfl) (pe_call (ok_boxes_of T) (hr.mono (by decide)) (by rfl) T.d_boxes_of.g T.d_boxes_of.kp T.d_boxes_of.b .nil (passes_call (takes_of rfl rfl rfl rfl) fun _ _ _ _ h => h) (pa_cons (pv 0) pa_nil)))
 (pss_cons (ps_if (PW.pt (pw_or (pt_not (pt_val (pe_callB (k_isi K) (by rfl) T.b_isinstance (by decide +kernel) (pa_cons (pv 1) (pa_cons (pe_bltn (v := .ty "list") (by rfl) T.b_list (by decide +kernel) rfl) pa_nil))))) (pw_or1 (pt_cmpR (k_neD K rfl hr.units) (pe_callB (k_len K) (by rfl) T.b_len PySem.boot_len (pa_cons (pv 1) pa_nil)) (pv 2) (nomark _))))) (pss_one (p_raise (takes_of rfl rfl rfl rfl) (pmk_own PySem.F.excBase_ValueError T.NoTexts.x T.NoTexts.g T.NoTexts.k (raises_own T.NoTexts.b T.NoTexts.t) (by exact rfl)))) pss_nil)
 (pss_cons (ps_for (passes_of rfl) rfl (k_piL K rfl (pv 1)) (pg_name (i := 3) sc_need_measured.nd rfl (Or.inl rfl)) (pss_one (ps_if (PW.pt (pw_or (pt_not (pt_val (pe_callB (k_isi K) (by rfl) T.b_isinstance (by decide +kernel) (pa_cons (pv 3) (pa_cons (pe_bltn (v := .ty "list") (by rfl) T.b_list (by decide +kernel) rfl) pa_nil))))) (pw_or1 (pt_cmpR op_gt (pe_callB (k_len K) (by rfl) T.b_len PySem.boot_len (pa_cons (pv 3) pa_nil)) (pe_glob (v := .int 40) rfl T.c_MOST_WORDS ⟨_, rfl⟩) (nomark _))))) (pss_one (p_raise (takes_of rfl rfl rfl rfl) (pmk_own PySem.F.excBase_ValueError T.NoTexts.x T.NoTexts.g T.NoTexts.k (raises_own T.NoTexts.b T.NoTexts.t) (by exact rfl)))) pss_nil)))
 (pss_one (ps_ret (pe_call (ok_measured T) hr (by rfl) T.d_measured.g T.d_measured.kp T.d_measured.b .nil pass0 (pa_cons (pv 0) (pa_cons (pv 1) pa_nil)))))))), rd_of h fun B ls Po Pe hB hG hE => ?_⟩)
  obtain ⟨x, ts, ns, rfl, hX, q⟩ := hG
  have hnum := hX.num
  have hlen := hX.len
  have hgl := hX.good.le
  show WS B K _ [some (.d x), some (.d (.list (ts.map textD))), none, none] _
  walk_at "sn"
  refine ⟨_, fun _ => False, rfl, ⟨x, rfl, hX.sn, fun ms h1 h2 => ?_, fun hno => (hno ⟨ns, hnum, hX.good⟩).elim⟩, fun C h => h.elim⟩
  rw [hnum] at h1
  cases h1
  refine ⟨_, rfl, ?_⟩
  walk_at "sn"
  refine ws_ifC False True ?_ (fun z => z.elim) fun _ => ?_
  · walk_at "sv"
    rw [hlen, show PyData.eqv (.int (ns.length : Int)) (.int (ns.length : Int)) = true from (eqv_iff rfl rfl).mpr rfl]
    exact ⟨rfl, (fun h => nomatch h), fun _ => trivial⟩
  walk_at "sn"
  refine ws_forL textD ?_
  walk_at "sn"
  refine ⟨fun pre ρ' => ∃ o3 : Option L, ρ' = [some (.d x), some (.d (.list (ts.map textD))), some (.d (.int ns.length)), o3], ⟨_, rfl⟩, fun pre a post ρ2 ha hI => ?_, fun ρ2 hI => ?_⟩
  · obtain ⟨o3, rfl⟩ := hI
    have hal := hX.tx.l a (by rw [ha]; simp)
    show WG B K _ (.list (a.map .str)) _ _
    walk_at "sn"
    refine ws_ifC False True ?_ (fun z => z.elim) fun _ => ?_
    · walk_at "sv"
      exact ⟨rfl, (fun h => by have h := of_decide_eq_true h; omega), fun _ => trivial⟩
    walk_at "sn"
    exact ⟨_, rfl⟩
  · obtain ⟨o3, rfl⟩ := hI
    walk_at "sn"
    have hnn := num_nodes _ (Nat.le_refl _) hnum
    exact ⟨x, ts, _, ns, rfl, ⟨hnum, hgl, by omega, by decide, hX.tx, fun n hn => by have := hX.good.2 n hn; omega⟩, q⟩

/-! ### tree_stairs -/
def G_tree_stairs : GF := fun ls Po _ => ∃ (x : PyData) (ts : List (List Str)) (ns : List Int), ls = [.d x, .d (.list (ts.map textD))] ∧ TrTx x ts ns ∧ ∀ R, Stairs R (fitT (txt ts) x) → Po (.d (partD R)) []
theorem ok_tree_stairs (T : Txt K mg) : FnOk P w K mg base (L2.CX P w) 62 T.f_tree_stairs T.fd_tree_stairs ["tree", "texts"] (SpG K none G_tree_stairs) := by
  refine T.d_tree_stairs.F.okX sc_tree_stairs (SpG.len (n := 2) fun ls Po Pe h => by obtain ⟨_, _, _, rfl, _⟩ := h; rfl) (fun cdv A outer s H vs Q E hr h => ⟨_, (pss_one (ps_ret (pe_ix (k_ix K) (pe_call (ok_need_measured T) hr (by rfl) T.d_need_measured.g T.d_need_measured.kp T.d_need_measured.b .nil (passes_call (takes_of rfl rfl rfl rfl) fun _ _ _ _ h => h) (pa_cons (pv 0) (pa_cons (pv 1) pa_nil))) pe_int (fun _ _ => rfl)))), rd_of h fun B ls Po Pe hB hG hE => ?_⟩)
  obtain ⟨x, ts, ns, rfl, hX, q⟩ := hG
  show WS B K _ [some (.d x), some (.d (.list (ts.map textD)))] _
  walk_at "sn"
  refine ⟨_, fun _ => False, rfl, ⟨x, ts, ns, rfl, hX, fun y hy => ?_⟩, fun C h => h.elim⟩
  obtain ⟨R, z, rfl, hR⟩ := hy.st
  refine ⟨_, rfl, ?_⟩
  walk_at "sn"
  exact q R hR

/-! ### high_for, wide_for -/
def LeastX (F : Int → Prop) (o : Option Int) : Prop := ∀ x, F x ↔ ∃ t, o = some t ∧ t ≤ x
def G_high_for : GF := fun ls Po _ => ∃ (R : List Sp) (w : Int), ls = [.d (partD R), .d (.int w)] ∧ (Sc R ∧ R.length ≤ 1000000) ∧ ∀ o, TabAt (Up R) w o → Po (.d (optD o)) []
theorem high_step {R : List Sp} {p : Sp} {w : Int} {o : Option Int} (h : Sc (R ++ [p])) (t : TabAt (Up R) w o) : TabAt (Up (R ++ [p])) w (if p.1 ≤ w then some p.2 else o) := fun y => by
  rw [up_snoc]
  by_cases c : p.1 ≤ w
  · rw [if_pos c]
    constructor
    · rintro (⟨q, hq, h1, h2⟩ | ⟨_, h2⟩)
      · have := (List.pairwise_append.mp h).2.2 q hq p List.mem_cons_self
        exact ⟨p.2, rfl, by omega⟩
      · exact ⟨p.2, rfl, h2⟩
    · rintro ⟨t, e, ht⟩
      cases e
      exact .inr ⟨c, ht⟩
  · rw [if_neg c, ← t y]
    exact ⟨fun z => z.elim id fun z => absurd z.1 c, .inl⟩
theorem ok_high_for (T : Txt K mg) : FnOk P w K mg base CX0 1 T.f_high_for T.fd_high_for ["stairs", "wide"] (SpG K none G_high_for) := by
  refine T.d_high_for.F.ok sc_high_for (SpG.len (n := 2) fun ls Po Pe h => by obtain ⟨_, _, rfl, _⟩ := h; rfl) (fun cdv A outer s H vs Q E hr h => ⟨_, (pss_cons (ps_set (i := 2) sc_high_for.nd rfl (.inl rfl) pe_non)
 (pss_cons (ps_for PassesOwn.never rfl (k_piL K rfl (pv 0)) (pg_name (i := 3) sc_high_for.nd rfl (Or.inl rfl)) (pss_one (ps_if (pt_cmpR op_le (pe_ix (k_ix K) (pv 3) pe_int (fun _ _ => rfl)) (pv 1) (nomark _)) (pss_one (ps_set (i := 2) sc_high_for.nd rfl (.inl rfl) (pe_ix (k_ix K) (pv 3) pe_int (fun _ _ => rfl)))) pss_nil)))
 (pss_one (ps_ret (pv 2))))), rd_of h fun B ls Po Pe hB hG hE => ?_⟩)
  obtain ⟨R, w, rfl, ⟨hS, hl⟩, q⟩ := hG
  show WS B K _ [some (.d (.list (R.map spD))), some (.d (.int w)), none, none] _
  walk_at "sn"
  refine ws_forL spD ?_
  walk_at "sn"
  refine ⟨fun pre ρ' => ∃ (o : Option Int) (o3 : Option L), TabAt (Up pre) w o ∧ ρ' = [some (.d (.list (R.map spD))), some (.d (.int w)), some (.d (optD o)), o3], ⟨none, _, (fun y => ⟨fun h => (up_nil h).elim, fun ⟨t, e, _⟩ => (by cases e)⟩), rfl⟩, fun pre a post ρ2 ha hI => ?_, fun ρ2 hI => ?_⟩
  · obtain ⟨o, o3, ht, rfl⟩ := hI
    have hs := high_step (p := a) (R := pre) (by
      rw [ha] at hS
      have h1 : Sc ((pre ++ [a]) ++ post) := by rw [List.append_assoc]; exact hS
      exact (List.pairwise_append.mp h1).1) ht
    show WG B K _ (.tuple [.int a.1, .int a.2]) _ _
    walk_at "sv"
    · rw [if_pos (by omega)] at hs
      exact ⟨_, _, hs, rfl⟩
    · rw [if_neg (by omega)] at hs
      exact ⟨_, _, hs, rfl⟩
  · obtain ⟨o, o3, ht, rfl⟩ := hI
    walk_at "sn"
    exact q o ht
def G_wide_for : GF := fun ls Po _ => ∃ (R : List Sp) (h : Int), ls = [.d (partD R), .d (.int h)] ∧ (Sc R ∧ R.length ≤ 1000000) ∧ ∀ o, LeastX (fun x => Up R x h) o → Po (.d (optD o)) []
theorem ok_wide_for (T : Txt K mg) : FnOk P w K mg base CX0 1 T.f_wide_for T.fd_wide_for ["stairs", "high"] (SpG K none G_wide_for) := by
  refine T.d_wide_for.F.ok sc_wide_for (SpG.len (n := 2) fun ls Po Pe h => by obtain ⟨_, _, rfl, _⟩ := h; rfl) (fun cdv A outer s H vs Q E hr h => ⟨_, (pss_cons (ps_for PassesOwn.never rfl (k_piL K rfl (pv 0)) (pg_name (i := 2) sc_wide_for.nd rfl (Or.inl rfl)) (pss_one (ps_if (pt_cmpR op_le (pe_ix (k_ix K) (pv 2) pe_int (fun _ _ => rfl)) (pv 1) (nomark _)) (pss_one (ps_ret (pe_ix (k_ix K) (pv 2) pe_int (fun _ _ => rfl)))) pss_nil)))
 (pss_one (ps_ret pe_non))), rd_of h fun B ls Po Pe hB hG hE => ?_⟩)
  obtain ⟨R, h, rfl, ⟨hS, hl⟩, q⟩ := hG
  show WS B K _ [some (.d (.list (R.map spD))), some (.d (.int h)), none] _
  walk_at "sn"
  refine ws_forL spD ?_
  walk_at "sn"
  refine ⟨fun pre ρ' => ∃ (o2 : Option L), (∀ p, p ∈ pre → h < p.2) ∧ ρ' = [some (.d (.list (R.map spD))), some (.d (.int h)), o2], ⟨_, (fun p hp => nomatch hp), rfl⟩, fun pre a post ρ2 ha hI => ?_, fun ρ2 hI => ?_⟩
  · obtain ⟨o2, ht, rfl⟩ := hI
    show WG B K _ (.tuple [.int a.1, .int a.2]) _ _
    walk_at "sv"
    · refine q (some a.1) fun x => ⟨fun ⟨p, hp, h1, h2⟩ => ⟨a.1, rfl, ?_⟩, fun ⟨t, e, ht⟩ => by cases e; exact ⟨a, by rw [ha]; simp, ht, by omega⟩⟩
      rw [ha] at hp hS
      rcases List.mem_append.mp hp with hp | hp
      · have := ht p hp; omega
      · rcases List.mem_cons.mp hp with rfl | hp
        · exact h1
        · have := (List.pairwise_cons.mp (List.pairwise_append.mp hS).2.1).1 p hp
          omega
    · refine ⟨_, fun p hp => ?_, rfl⟩
      rcases List.mem_append.mp hp with hp | hp
      · exact ht p hp
      · rw [List.mem_singleton.mp hp]; omega
  · obtain ⟨o2, ht, rfl⟩ := hI
    walk_at "sn"
    exact q none fun x => ⟨fun ⟨p, hp, h1, h2⟩ => by have := ht p hp; omega, fun ⟨t, e, _⟩ => by cases e⟩

/-! ### least_high, least_wide -/
def G_least_high : GF := fun ls Po _ => ∃ (x : PyData) (ts : List (List Str)) (ns : List Int) (w : Int), ls = [.d x, .d (.list (ts.map textD)), .d (.int w)] ∧ TrTx x ts ns ∧ ∀ o, TabAt (fitT (txt ts) x) w o → Po (.d (optD o)) []
theorem ok_least_high (T : Txt K mg) : FnOk P w K mg base (L2.CX P w) 63 T.f_least_high T.fd_least_high ["tree", "texts", "wide"] (SpG K none G_least_high) := by
  refine T.d_least_high.F.okX sc_least_high (SpG.len (n := 3) fun ls Po Pe h => by obtain ⟨_, _, _, _, rfl, _⟩ := h; rfl) (fun cdv A outer s H vs Q E hr h => ⟨_, (pss_one (ps_ret (pe_call (ok_high_for T) (hr.mono (by decide)) (by rfl) T.d_high_for.g T.d_high_for.kp T.d_high_for.b .nil pass0 (pa_cons (pe_call (ok_tree_stairs T) hr (by rfl) T.d_tree_stairs.g T.d_tree_stairs.kp T.d_tree_stairs.b .nil (passes_call (takes_of rfl rfl rfl rfl) fun _ _ _ _ h => h) (pa_cons (pv 0) (pa_cons (pv 1) pa_nil))) (pa_cons (pv 2) pa_nil))))), rd_of h fun B ls Po Pe hB hG hE => ?_⟩)
  obtain ⟨x, ts, ns, w, rfl, hX, q⟩ := hG
  show WS B K _ [some (.d x), some (.d (.list (ts.map textD))), some (.d (.int w))] _
  walk_at "sn"
  refine ⟨_, fun _ => False, rfl, ⟨x, ts, ns, rfl, hX, fun R hR => ⟨_, rfl, ?_⟩⟩, fun C h => h.elim⟩
  walk_at "sn"
  refine ⟨R, w, rfl, ⟨hR.sc, by have := stairs_len hX.tx hX.num hX.good.le hR; omega⟩, fun o ho => q o (ho.congr fun y => hR.up w y)⟩
def G_least_wide : GF := fun ls Po _ => ∃ (x : PyData) (ts : List (List Str)) (ns : List Int) (h : Int), ls = [.d x, .d (.list (ts.map textD)), .d (.int h)] ∧ TrTx x ts ns ∧ ∀ o, LeastX (fun y => fitT (txt ts) x y h) o → Po (.d (optD o)) []
theorem ok_least_wide (T : Txt K mg) : FnOk P w K mg base (L2.CX P w) 63 T.f_least_wide T.fd_least_wide ["tree", "texts", "high"] (SpG K none G_least_wide) := by
  refine T.d_least_wide.F.okX sc_least_wide (SpG.len (n := 3) fun ls Po Pe h => by obtain ⟨_, _, _, _, rfl, _⟩ := h; rfl) (fun cdv A outer s H vs Q E hr h => ⟨_, (pss_one (ps_ret (pe_call (ok_wide_for T) (hr.mono (by decide)) (by rfl) T.d_wide_for.g T.d_wide_for.kp T.d_wide_for.b .nil pass0 (pa_cons (pe_call (ok_tree_stairs T) hr (by rfl) T.d_tree_stairs.g T.d_tree_stairs.kp T.d_tree_stairs.b .nil (passes_call (takes_of rfl rfl rfl rfl) fun _ _ _ _ h => h) (pa_cons (pv 0) (pa_cons (pv 1) pa_nil))) (pa_cons (pv 2) pa_nil))))), rd_of h fun B ls Po Pe hB hG hE => ?_⟩)
  obtain ⟨x, ts, ns, h, rfl, hX, q⟩ := hG
  show WS B K _ [some (.d x), some (.d (.list (ts.map textD))), some (.d (.int h))] _
  walk_at "sn"
  refine ⟨_, fun _ => False, rfl, ⟨x, ts, ns, rfl, hX, fun R hR => ⟨_, rfl, ?_⟩⟩, fun C h => h.elim⟩
  walk_at "sn"
  refine ⟨R, h, rfl, ⟨hR.sc, by have := stairs_len hX.tx hX.num hX.good.le hR; omega⟩, fun o ho => q o fun y => (hR.up y h).symm.trans (ho y)⟩

/-! ### tables and staircases, compared -/
theorem sum_perm {as bs : List Int} (h : as.Perm bs) : as.sum = bs.sum := by
  induction h with
  | nil => rfl
  | cons x _ ih => rw [List.sum_cons, List.sum_cons, ih]
  | swap x y l => rw [List.sum_cons, List.sum_cons, List.sum_cons, List.sum_cons]; omega
  | trans _ _ h1 h2 => exact h1.trans h2
theorem bnds_all {ts : List (List Str)} {ns : List Int} (h : ns.Perm (ixs 0 ts.length)) : bnds (txt ts) ns = (ts.map bnd).sum := by
  unfold bnds
  rw [sum_perm (h.map fun i => bnd (txt ts i))]
  congr 1
  refine List.ext_getElem? fun k => ?_
  rw [List.getElem?_map, List.getElem?_map, ixs_at]
  by_cases c : k < ts.length
  · rw [if_pos c, List.getElem?_eq_getElem c]
    show some (bnd (txt ts (0 + (k : Int)))) = some (bnd ts[k])
    unfold txt
    rw [List.getD_eq_getElem?_getD, show ((0 : Int) + (k : Int)).toNat = k by omega, List.getElem?_eq_getElem c]
    rfl
  · rw [if_neg c, List.getElem?_eq_none (by omega)]
    rfl
def goodW (os : List (Option Int)) (m : Int) (w : Int) : Bool := match os.getD w.toNat none with
  | some t => decide (t ≤ m)
  | none => false
theorem goodW_iff {F : Int → Int → Prop} {most : Nat} {os : List (Option Int)} (h : Tab F most os) {m w : Int} (h0 : 0 ≤ w) (h1 : w ≤ most) : goodW os m w = true ↔ F w m := by
  obtain ⟨k, rfl⟩ := Int.eq_ofNat_of_zero_le h0
  have hkl : k < os.length := by rw [h.len]; omega
  have e := List.getElem?_eq_getElem hkl
  have ht := h.at' k _ e
  unfold goodW
  rw [Int.toNat_natCast, List.getD_eq_getElem?_getD, e, ht m]
  show (match os[k] with | some t => decide (t ≤ m) | none => false) = true ↔ _
  cases os[k] with
  | none => exact ⟨(fun z => nomatch z), fun ⟨t, e2, _⟩ => by cases e2⟩
  | some t => exact ⟨fun z => ⟨t, rfl, of_decide_eq_true z⟩, fun ⟨u, e2, hu⟩ => by cases e2; exact decide_eq_true hu⟩
theorem first_good {F : Int → Int → Prop} {most : Nat} {os : List (Option Int)} {m M : Int} {o : Option Int} (h : Tab F most os) (hp : Pos1 F) (hst : ∀ w y, F w y → F (min w M) y) (hM : M ≤ most) (ho : LeastX (fun w => F w m) o) : ((ixs 1 most).filter (goodW os m)).head? = o := by
  rw [List.head?_filter]
  cases o with
  | none =>
    rw [List.find?_eq_none]
    intro w hw z
    have hb := ixs_mem hw
    obtain ⟨t, e, _⟩ := (ho w).mp ((goodW_iff h (by omega) (by omega)).mp z)
    cases e
  | some t =>
    have hF : F t m := (ho t).mpr ⟨t, rfl, Int.le_refl _⟩
    have hF2 := (ho _).mp (hst _ _ hF)
    obtain ⟨t', e, ht'⟩ := hF2
    cases e
    have hp1 := (hp _ _ hF).1
    have htM : t ≤ M := by omega
    refine List.find?_eq_some_iff_getElem.mpr ⟨(goodW_iff h (by omega) (by omega)).mpr hF, (t - 1).toNat, by rw [ixs_len]; omega, ?_, fun j hj => ?_⟩
    · have e := ixs_at (lo := 1) (n := most) (i := (t - 1).toNat)
      rw [if_pos (by omega)] at e
      have e2 := (List.getElem?_eq_some_iff.mp e).2
      rw [e2]
      omega
    · have hjl : j < (ixs 1 most).length := by rw [ixs_len]; omega
      have e := ixs_at (lo := 1) (n := most) (i := j)
      rw [if_pos (by omega)] at e
      have e2 := (List.getElem?_eq_some_iff.mp e).2
      rw [e2]
      cases g : goodW os m (1 + (j : Int)) with
      | false => rfl
      | true =>
        obtain ⟨u, e3, hu⟩ := (ho _).mp ((goodW_iff h (by omega) (by omega)).mp g)
        cases e3
        omega
theorem head_none (ws : List Int) : atI (ws.map PyData.int ++ [.none]) 0 = some (optD ws.head?) := by
  cases ws <;> exact atI_nat (j := 0) rfl
theorem tab_min {F : Int → Int → Prop} {most : Nat} {os : List (Option Int)} {m M : Int} {o : Option Int} (h : Tab F most os) (hm : Mono F) (hst : ∀ w y, F w y → F (min w M) y) (hM : M ≤ most) (h0 : 0 ≤ m) (ho : TabAt F m o) : os.getD (min m most).toNat none = o := by
  have hl : (min m (most : Int)).toNat < os.length := by rw [h.len]; omega
  have e := List.getElem?_eq_getElem hl
  have ht := h.at' _ _ e
  rw [List.getD_eq_getElem?_getD, e]
  show os[(min m (most : Int)).toNat] = o
  refine TabAt.uniq (F := F) (w := min m (most : Int)) ?_ (fun y => ?_)
  · rw [show (((min m (most : Int)).toNat : Nat) : Int) = min m most by omega] at ht
    exact ht
  · refine Iff.trans ⟨fun q => hm _ _ _ _ q (by omega) (Int.le_refl _), fun q => ?_⟩ (ho y)
    exact hm _ _ _ _ (hst _ _ q) (by omega) (Int.le_refl _)
theorem cut_short {α : Type} (xs : List α) {h : Int} (h2 : 2 ≤ h) : ((cutD xs (some 2) (some h)).length : Int) ≤ h - 2 := by
  obtain ⟨k, rfl⟩ := Int.eq_ofNat_of_zero_le (show 0 ≤ h by omega)
  unfold cutD
  rw [List.length_take, show (some (2 : Int)) = some ((2 : Nat) : Int) from rfl, HT.sIx_nat, HT.sIx_nat]
  omega

/-! ### the boxes of a tree in a piece -/
theorem least_ex {F : Int → Prop} (hm : ∀ x y, F x → x ≤ y → F y) (hp : ∀ x, F x → 1 ≤ x) : ∀ n : Nat, F n → ∃ t, ∀ x, F x ↔ t ≤ x
  | 0, h => by have := hp _ h; omega
  | n + 1, h => by
    by_cases c : F (n : Int)
    · exact least_ex hm hp n c
    · refine ⟨((n + 1 : Nat) : Int), fun x => ⟨fun hx => ?_, fun hx => hm _ _ h hx⟩⟩
      by_cases d : ((n + 1 : Nat) : Int) ≤ x
      · exact d
      · exact absurd (hm _ _ hx (by omega)) c
noncomputable def leastI (F : Int → Prop) : Int := by
  classical
  exact if h : ∃ t, ∀ x, F x ↔ t ≤ x then Classical.choose h else 0
theorem leastI_of {F : Int → Prop} {t : Int} (h : ∀ x, F x ↔ t ≤ x) : leastI F = t := by
  have hex : ∃ t, ∀ x, F x ↔ t ≤ x := ⟨t, h⟩
  unfold leastI
  rw [dif_pos hex]
  have hc := Classical.choose_spec hex
  have h1 := (hc t).mp ((h t).mpr (Int.le_refl _))
  have h2 := (h _).mp ((hc _).mpr (Int.le_refl _))
  omega
theorem leastI_spec {F : Int → Prop} (hm : ∀ x y, F x → x ≤ y → F y) (hp : ∀ x, F x → 1 ≤ x) {x0 : Int} (h : F x0) : ∀ x, F x ↔ leastI F ≤ x := by
  have h1 := hp _ h
  obtain ⟨n, rfl⟩ := Int.eq_ofNat_of_zero_le (show 0 ≤ x0 by omega)
  obtain ⟨t, ht⟩ := least_ex hm hp n h
  rw [leastI_of ht]
  exact ht
abbrev Pc := Int × Int × Int × Int
def pcD (p : Pc) : PyData := .tuple [.int p.1, .int p.2.1, .int p.2.2.1, .int p.2.2.2]
def spA (ls : List Int) (a z : Int) (k : Nat) : Int × Int := (a + (ls.take k).sum, if k + 1 < ls.length then a + (ls.take (k + 1)).sum else z)
noncomputable def lsB (tx : Int → List Str) (ps : List PyData) (h : Int) : List Int := ps.map fun q => leastI fun x => fitT tx q x h
noncomputable def lsD (tx : Int → List Str) (ps : List PyData) (w : Int) : List Int := ps.map fun q => leastI fun y => fitT tx q w y
noncomputable def pcB (tx : Int → List Str) (ps : List PyData) (p : Pc) (j : Nat) : Pc := ((spA (lsB tx ps (p.2.2.2 - p.2.1)) p.1 p.2.2.1 j).1, p.2.1, (spA (lsB tx ps (p.2.2.2 - p.2.1)) p.1 p.2.2.1 j).2, p.2.2.2)
noncomputable def pcH (tx : Int → List Str) (ps : List PyData) (p : Pc) (j : Nat) : Pc := (p.1, (spA (lsD tx ps (p.2.2.1 - p.1)) p.2.1 p.2.2.2 j).1, p.2.2.1, (spA (lsD tx ps (p.2.2.1 - p.1)) p.2.1 p.2.2.2 j).2)
noncomputable def pcs (tx : Int → List Str) (k : Str) (ps : List PyData) (p : Pc) (j : Nat) : Pc := if k = barS then pcB tx ps p j else pcH tx ps p j
mutual
noncomputable def setT (tx : Int → List Str) : PyData → Pc → List (Int × Pc)
  | .int i, p => [(i, p)]
  | .tuple [.str k, .tuple ps], p => setTs tx ps (pcs tx k ps p)
  | _, _ => []
noncomputable def setTs (tx : Int → List Str) : List PyData → (Nat → Pc) → List (Int × Pc)
  | [], _ => []
  | q :: qs, f => setT tx q (f 0) ++ setTs tx qs fun j => f (j + 1)
end
section
variable {tx : Int → List Str}
theorem setT_int {i : Int} {p : Pc} : setT tx (.int i) p = [(i, p)] := by rw [setT]
theorem setT_knot {k : Str} {ps : List PyData} {p : Pc} : setT tx (.tuple [.str k, .tuple ps]) p = setTs tx ps (pcs tx k ps p) := by rw [setT]
theorem setTs_nil {f : Nat → Pc} : setTs tx [] f = [] := by rw [setTs]
theorem setTs_cons {q : PyData} {qs : List PyData} {f : Nat → Pc} : setTs tx (q :: qs) f = setT tx q (f 0) ++ setTs tx qs fun j => f (j + 1) := by rw [setTs]
theorem setTs_snoc {q : PyData} : ∀ {qs : List PyData} {f : Nat → Pc}, setTs tx (qs ++ [q]) f = setTs tx qs f ++ setT tx q (f qs.length)
  | [], f => by rw [List.nil_append, setTs_cons, setTs_nil, setTs_nil, List.append_nil, List.nil_append]; rfl
  | r :: qs, f => by rw [List.cons_append, setTs_cons, setTs_cons, setTs_snoc, List.append_assoc]; rfl
theorem setTs_keys {k : Str} : ∀ {ps : List PyData} {ns : List Int} {f : Nat → Pc}, numTs k ps = some ns → (∀ p, p ∈ ps → ∀ ms, numT k p = some ms → ∀ c, ((setT tx p c).map Prod.fst).Perm ms) → ((setTs tx ps f).map Prod.fst).Perm ns
  | [], ns, f, h, _ => by
    have : ns = [] := by unfold numTs at h; cases h; rfl
    rw [setTs_nil, this]
    exact List.Perm.refl _
  | q :: ps, ns, f, h, ih => by
    obtain ⟨a, b, e1, e2, rfl⟩ := numTs_consI h
    rw [setTs_cons, List.map_append]
    exact ((ih q List.mem_cons_self b e2 _).append (setTs_keys e1 fun p hp => ih p (List.mem_cons_of_mem _ hp))).trans List.perm_append_comm
theorem setT_keys {x : PyData} {ab : Str} {ns : List Int} (h : numT ab x = some ns) : ∀ c, ((setT tx x c).map Prod.fst).Perm ns := by
  refine tree_ind (P := fun x => ∀ ab ns, numT ab x = some ns → ∀ c, ((setT tx x c).map Prod.fst).Perm ns) (fun i ab ns e c => ?_) (fun k ps hk hl ih ab ns e c => ?_) h _ _ h
  · rw [numT_int] at e
    cases e
    rw [setT_int]
    exact List.Perm.refl _
  · rcases numT_cases e with ⟨i, e2, _⟩ | ⟨k', ps', e2, _, hn⟩
    · cases e2
    · injection e2 with e2
      injection e2 with e3 e4
      injection e4 with e4
      injection e3 with e3
      injection e4 with e4
      subst e4
      subst e3
      rw [setT_knot]
      exact setTs_keys hn fun p hp ms hm => ih p hp _ _ hm
theorem sum_take_succ {ls : List Int} {k : Nat} {l : Int} (h : ls[k]? = some l) : (ls.take (k + 1)).sum = (ls.take k).sum + l := by
  rw [List.take_succ, h, List.sum_append]
  simp
theorem fitT_upW {x : PyData} {ab : Str} {ns : List Int} (hx : numT ab x = some ns) {h x0 : Int} (q : fitT tx x x0 h) : ∀ w, fitT tx x w h ↔ (leastI fun w => fitT tx x w h) ≤ w :=
  leastI_spec (F := fun w => fitT tx x w h) (fun a b z hab => fit_mono tx hx _ _ _ _ z hab (Int.le_refl _)) (fun a z => (fit_pos tx hx _ _ z).1) q
theorem fitT_upH {x : PyData} {ab : Str} {ns : List Int} (hx : numT ab x = some ns) {w y0 : Int} (q : fitT tx x w y0) : ∀ h, fitT tx x w h ↔ (leastI fun h => fitT tx x w h) ≤ h :=
  leastI_spec (F := fun h => fitT tx x w h) (fun a b z hab => fit_mono tx hx _ _ _ _ z (Int.le_refl _) hab) (fun a z => (fit_pos tx hx _ _ z).2) q
theorem beside_parts {h : Int} : ∀ {ps : List PyData} {w : Int}, (∀ p, p ∈ ps → ∃ ab ms, numT ab p = some ms) → fitBeside tx ps w h → (∀ p, p ∈ ps → ∀ x, fitT tx p x h ↔ (leastI fun x => fitT tx p x h) ≤ x) ∧ (lsB tx ps h).sum ≤ w
  | [], w, _, q => ⟨(fun p hp => nomatch hp), beside_nil.mp q⟩
  | r :: ps, w, hp, q => by
    obtain ⟨a, q1, q2⟩ := beside_cons.mp q
    obtain ⟨h1, h2⟩ := beside_parts (fun p z => hp p (List.mem_cons_of_mem _ z)) q2
    obtain ⟨ab, ms, e⟩ := hp r List.mem_cons_self
    have h3 := fitT_upW e q1
    have h4 := (h3 a).mp q1
    refine ⟨fun p z => ?_, ?_⟩
    · rcases List.mem_cons.mp z with rfl | z
      · exact h3
      · exact h1 p z
    · have e2 : lsB tx (r :: ps) h = (leastI fun x => fitT tx r x h) :: lsB tx ps h := rfl
      rw [e2, List.sum_cons]
      omega
theorem below_parts {w : Int} : ∀ {ps : List PyData} {h : Int}, (∀ p, p ∈ ps → ∃ ab ms, numT ab p = some ms) → fitBelow tx ps w h → (∀ p, p ∈ ps → ∀ y, fitT tx p w y ↔ (leastI fun y => fitT tx p w y) ≤ y) ∧ (lsD tx ps w).sum ≤ h
  | [], h, _, q => ⟨(fun p hp => nomatch hp), below_nil.mp q⟩
  | r :: ps, h, hp, q => by
    obtain ⟨a, q1, q2⟩ := below_cons.mp q
    obtain ⟨h1, h2⟩ := below_parts (fun p z => hp p (List.mem_cons_of_mem _ z)) q2
    obtain ⟨ab, ms, e⟩ := hp r List.mem_cons_self
    have h3 := fitT_upH e q1
    have h4 := (h3 a).mp q1
    refine ⟨fun p z => ?_, ?_⟩
    · rcases List.mem_cons.mp z with rfl | z
      · exact h3
      · exact h1 p z
    · have e2 : lsD tx (r :: ps) w = (leastI fun y => fitT tx r w y) :: lsD tx ps w := rfl
      rw [e2, List.sum_cons]
      omega
theorem spA_wide {ls : List Int} {a z : Int} {k : Nat} {l : Int} (h : ls[k]? = some l) (hs : ls.sum ≤ z - a) : l ≤ (spA ls a z k).2 - (spA ls a z k).1 := by
  unfold spA
  dsimp only
  have hk := (List.getElem?_eq_some_iff.mp h).1
  have e := sum_take_succ h
  by_cases c : k + 1 < ls.length
  · rw [if_pos c]; omega
  · rw [if_neg c]
    have : (ls.take (k + 1)) = ls := List.take_of_length_le (by omega)
    rw [this] at e
    omega
theorem lsB_at {ps : List PyData} {h : Int} {k : Nat} {p : PyData} (e : ps[k]? = some p) : (lsB tx ps h)[k]? = some (leastI fun x => fitT tx p x h) := by
  unfold lsB
  rw [List.getElem?_map, e]
  rfl
theorem lsD_at {ps : List PyData} {w : Int} {k : Nat} {p : PyData} (e : ps[k]? = some p) : (lsD tx ps w)[k]? = some (leastI fun y => fitT tx p w y) := by
  unfold lsD
  rw [List.getElem?_map, e]
  rfl
def PcFit (tx : Int → List Str) (x : PyData) (p : Pc) : Prop := fitT tx x (p.2.2.1 - p.1) (p.2.2.2 - p.2.1)
theorem pcs_fit {k : Str} {ps : List PyData} {p : Pc} (hn : ∀ q, q ∈ ps → ∃ ab ms, numT ab q = some ms) (h : PcFit tx (.tuple [.str k, .tuple ps]) p) {j : Nat} {q : PyData} (hj : ps[j]? = some q) : PcFit tx q (pcs tx k ps p j) := by
  unfold PcFit at h ⊢
  rcases fitT_knot.mp h with ⟨rfl, g⟩ | ⟨rfl, g⟩
  · obtain ⟨g1, g2⟩ := below_parts hn g
    unfold pcs
    rw [if_neg dash_ne]
    exact (g1 q (List.mem_of_getElem? hj) _).mpr (spA_wide (lsD_at hj) g2)
  · obtain ⟨g1, g2⟩ := beside_parts hn g
    unfold pcs
    rw [if_pos rfl]
    exact (g1 q (List.mem_of_getElem? hj) _).mpr (spA_wide (lsB_at hj) g2)
end
/-! found pieces by number -/
def kbL (bs : List (Int × Pc)) : List Int := bs.map Prod.fst
def vbL (bs : List (Int × Pc)) : List PyData := bs.map fun b => pcD b.2
theorem pc_put {bs : List (Int × Pc)} {i : Int} {p : Pc} (h : i ∉ kbL bs) : putKs ((kbL bs).map Sum.inl) (Sum.inl i : Key) = (kbL (bs ++ [(i, p)])).map Sum.inl ∧ putXs ((kbL bs).map Sum.inl) (vbL bs) (Sum.inl i : Key) (pcD p) = vbL (bs ++ [(i, p)]) := by
  have hn : (Sum.inl i : Key) ∉ (kbL bs).map Sum.inl := fun z => by
    obtain ⟨u, hu, e⟩ := List.mem_map.mp z
    injection e with e
    exact h (e ▸ hu)
  obtain ⟨e1, e2⟩ := put_new (x := pcD p) (xs := vbL bs) hn
  refine ⟨by rw [e1]; unfold kbL; rw [List.map_append, List.map_append]; rfl, by rw [e2]; unfold vbL; rw [List.map_append]; rfl⟩
theorem pc_get : ∀ {bs : List (Int × Pc)} {i : Int} {p : Pc}, (kbL bs).Nodup → (i, p) ∈ bs → SV.getK ((kbL bs).map Sum.inl) (vbL bs) (Sum.inl i : Key) = some (pcD p)
  | [], _, _, _, h => nomatch h
  | b :: bs, i, p, hd, h => by
    show (if (Sum.inl b.1 : Key) = Sum.inl i then some (pcD b.2) else SV.getK ((kbL bs).map Sum.inl) (vbL bs) (Sum.inl i : Key)) = _
    have hd2 := List.nodup_cons.mp hd
    rcases List.mem_cons.mp h with rfl | h
    · rw [if_pos rfl]
    · rw [if_neg fun z => by
        injection z with z
        exact hd2.1 (z ▸ List.mem_map.mpr ⟨(i, p), h, rfl⟩)]
      exact pc_get hd2.2 h
def pieceOf (S : List (Int × Pc)) (i : Int) : Pc := ((S.find? fun b => b.1 == i).map Prod.snd).getD (0, 0, 0, 0)
theorem pieceOf_mem : ∀ {S : List (Int × Pc)} {i : Int}, i ∈ kbL S → (i, pieceOf S i) ∈ S
  | [], _, h => nomatch h
  | b :: S, i, h => by
    unfold pieceOf
    rw [List.find?_cons]
    by_cases c : b.1 = i
    · rw [show (b.1 == i) = true from beq_iff_eq.mpr c]
      subst c
      exact List.mem_cons_self
    · rw [show (b.1 == i) = false from beq_eq_false_iff_ne.mpr c]
      rcases List.mem_cons.mp h with h | h
      · exact absurd h.symm c
      · exact List.mem_cons_of_mem _ (pieceOf_mem h)
def dueD (S : List (Int × Pc)) (n : Nat) : PyData := .list ((ixs 0 n).map fun i => pcD (pieceOf S i))
theorem due_get {bs S : List (Int × Pc)} {n : Nat} (hp : bs.Perm S) (hk : (kbL S).Perm (ixs 0 n)) {i : Int} (hi : i ∈ ixs 0 n) : SV.getK ((kbL bs).map Sum.inl) (vbL bs) (Sum.inl i : Key) = some (pcD (pieceOf S i)) := by
  have hnd : (kbL S).Nodup := by
    refine hk.nodup_iff.mpr ?_
    unfold ixs
    refine List.Pairwise.map _ (fun a b e z => e ?_) List.nodup_range
    omega
  refine pc_get ((hp.map Prod.fst).nodup_iff.mpr hnd) (hp.mem_iff.mpr (pieceOf_mem (hk.mem_iff.mpr hi)))
theorem cut_drop {α : Type} (xs : List α) : cutD xs none (some (-1)) = xs.dropLast := by
  have e1 : HT.sIx xs.length 0 none = 0 := rfl
  have e2 : HT.sIx xs.length xs.length (some (-1)) = xs.length - 1 := by
    unfold HT.sIx
    simp
    omega
  unfold cutD
  rw [e1, e2, List.drop_zero, Nat.sub_zero, List.dropLast_eq_take]
/-! how deep they are -/
theorem numTs_sub3 {k : Str} : ∀ {ps : List PyData} {ns : List Int}, numTs k ps = some ns → ∀ p, p ∈ ps → ∃ ms, numT k p = some ms ∧ ms.length + ps.length ≤ ns.length + 1
  | [], _, _, p, hp => nomatch hp
  | q :: ps, ns, h, p, hp => by
    obtain ⟨a, b, e1, e2, rfl⟩ := numTs_consI h
    rw [List.length_append, List.length_cons]
    rcases List.mem_cons.mp hp with rfl | hp
    · have := numTs_le e1
      exact ⟨b, e2, by omega⟩
    · obtain ⟨ms, g1, g2⟩ := numTs_sub3 e1 p hp
      have := num_pos e2
      exact ⟨ms, g1, by omega⟩
theorem partD_ok {n : Nat} (R : List Sp) : OkD (n + 2) (partD R) := .list fun x hx => by
  obtain ⟨p, _, rfl⟩ := List.mem_map.mp hx
  refine .tuple fun y hy => ?_
  rcases List.mem_cons.mp hy with rfl | hy
  · exact .int _
  · rw [List.mem_singleton.mp hy]; exact .int _
theorem num_okD {x : PyData} {ab : Str} {ns : List Int} (h : numT ab x = some ns) : OkD (2 * ns.length) x := by
  refine tree_ind (P := fun x => ∀ ab ns, numT ab x = some ns → OkD (2 * ns.length) x) (fun i ab ns e => .int i) (fun k ps hk hl ih ab ns e => ?_) h _ _ h
  rcases numT_cases e with ⟨i, e2, _⟩ | ⟨k', ps', e2, _, hn⟩
  · cases e2
  · injection e2 with e2
    injection e2 with e3 e4
    injection e4 with e4
    injection e3 with e3
    injection e4 with e4
    subst e4
    subst e3
    have hlen := numTs_le hn
    obtain ⟨m, hm⟩ : ∃ m, 2 * ns.length = m + 1 + 1 := ⟨2 * ns.length - 2, by omega⟩
    rw [hm]
    refine .tuple fun y hy => ?_
    rcases List.mem_cons.mp hy with rfl | hy
    · exact .str (strOk_kind hk)
    · rw [List.mem_singleton.mp hy]
      refine .tuple fun p hp => ?_
      obtain ⟨ms, g1, g2⟩ := numTs_sub3 hn p hp
      exact (ih p hp _ _ g1).mono (by omega)
theorem mea_okD {tx : Int → List Str} {x y : PyData} {ab : Str} {ns : List Int} (h : numT ab x = some ns) (hy : Mea tx x y) : OkD (2 * ns.length + 1) y := by
  refine tree_ind (P := fun x => ∀ ab ns y, numT ab x = some ns → Mea tx x y → OkD (2 * ns.length + 1) y) (fun i ab ns y e hy => ?_) (fun k ps hk hl ih ab ns y e hy => ?_) h _ _ _ h hy
  · rw [numT_int] at e
    cases e
    cases hy
    refine .tuple fun z hz => ?_
    rcases List.mem_cons.mp hz with rfl | hz
    · exact .int _
    · rcases List.mem_cons.mp hz with rfl | hz
      · exact partD_ok _
      · rw [List.mem_singleton.mp hz]; exact .nil
  · have hx := num_okD e
    rcases numT_cases e with ⟨i, e2, _⟩ | ⟨k', ps', e2, _, hn⟩
    · cases e2
    · injection e2 with e2
      injection e2 with e3 e4
      injection e4 with e4
      injection e3 with e3
      injection e4 with e4
      subst e4
      subst e3
      have hlen := numTs_le hn
      cases hy with
      | knot _ _ ys R hs hyl hyp =>
        refine .tuple fun z hz => ?_
        rcases List.mem_cons.mp hz with rfl | hz
        · exact hx
        · rcases List.mem_cons.mp hz with rfl | hz
          · exact (partD_ok (n := 0) _).mono (by omega)
          · rw [List.mem_singleton.mp hz]
            obtain ⟨m, hm⟩ : ∃ m, 2 * ns.length = m + 1 := ⟨2 * ns.length - 1, by omega⟩
            rw [hm]
            refine .list fun y hy => ?_
            obtain ⟨j, hj⟩ := List.getElem?_of_mem hy
            have hjl := (List.getElem?_eq_some_iff.mp hj).1
            have hp : ps[j]? = some ps[j] := List.getElem?_eq_getElem (by omega)
            obtain ⟨ms, g1, g2⟩ := numTs_sub3 hn _ (List.mem_of_getElem? hp)
            exact (ih _ (List.mem_of_getElem? hp) _ _ _ g1 (hyp j _ _ hp hj)).mono (by omega)
theorem leastX_some {F : Int → Prop} {o : Option Int} {t : Int} (ho : LeastX F o) (h : ∀ x, F x ↔ t ≤ x) : o = some t := by
  obtain ⟨u, e, hu⟩ := (ho t).mp ((h t).mpr (Int.le_refl _))
  have := (h u).mp ((ho u).mpr ⟨u, e, Int.le_refl _⟩)
  rw [e]
  congr 1
  omega
theorem tab_some {F : Int → Int → Prop} {w : Int} {o : Option Int} {t : Int} (ho : TabAt F w o) (h : ∀ y, F w y ↔ t ≤ y) : o = some t := leastX_some (F := F w) ho h
theorem spA_fst_succ {ls : List Int} {a z : Int} {k : Nat} {l : Int} (h : ls[k]? = some l) : (spA ls a z (k + 1)).1 = (spA ls a z k).1 + l := by
  unfold spA
  dsimp only
  rw [sum_take_succ h]
  omega
theorem spA_snd {ls : List Int} {a z : Int} {k : Nat} {l : Int} (h : ls[k]? = some l) (hk : k + 1 < ls.length) : (spA ls a z k).2 = (spA ls a z k).1 + l := by
  unfold spA
  dsimp only
  rw [if_pos hk, sum_take_succ h]
  omega
theorem spA_last {ls : List Int} {a z : Int} {k : Nat} (hk : ¬ k + 1 < ls.length) : (spA ls a z k).2 = z := by
  unfold spA
  dsimp only
  rw [if_neg hk]
theorem spA_zero {ls : List Int} {a z : Int} : (spA ls a z 0).1 = a := by
  unfold spA
  simp
theorem mea_mono {tx : Int → List Str} {x y : PyData} (h : Mea tx x y) : ∃ R z, y = .tuple [x, partD R, z] ∧ Stairs R (fitT tx x) := h.st

/-! ### laid_beside, laid_beneath -/
structure Laid (ts : List (List Str)) (ps ys : List PyData) : Prop where
  tx : TxOk ts
  len : ys.length = ps.length
  pos : 1 ≤ ps.length
  le : ps.length ≤ 24
  mea : ∀ (j : Nat) q y, ps[j]? = some q → ys[j]? = some y → Mea (txt ts) q y
  num : ∀ q, q ∈ ps → ∃ ab ms, numT ab q = some ms ∧ ms.length ≤ 24
theorem Laid.at' {ts : List (List Str)} {ps ys : List PyData} (h : Laid ts ps ys) {j : Nat} {y : PyData} (hj : ys[j]? = some y) : ∃ q R z, ps[j]? = some q ∧ y = .tuple [q, partD R, z] ∧ Stairs R (fitT (txt ts) q) ∧ R.length ≤ 1000000 := by
  have hl := (List.getElem?_eq_some_iff.mp hj).1
  have hq : ps[j]? = some (ps[j]'(by rw [← h.len]; exact hl)) := List.getElem?_eq_getElem _
  obtain ⟨R, z, e, hR⟩ := (h.mea j _ _ hq hj).st
  obtain ⟨ab, ms, e1, e2⟩ := h.num _ (List.mem_of_getElem? hq)
  have := stairs_len h.tx e1 e2 hR
  exact ⟨_, R, z, hq, e, hR, by omega⟩
theorem drop_split {α : Type} {ys pre post : List α} {a : α} (h : ys.dropLast = pre ++ a :: post) : ys[pre.length]? = some a ∧ pre.length + 1 < ys.length := by
  have hl : ys.dropLast.length = ys.length - 1 := List.length_dropLast
  rw [h, List.length_append, List.length_cons] at hl
  have e : ys.dropLast[pre.length]? = some a := by
    rw [h, List.getElem?_append_right (Nat.le_refl _), Nat.sub_self]
    rfl
  rw [List.getElem?_dropLast] at e
  split at e
  · exact ⟨e, by omega⟩
  · cases e
theorem range_snoc {α : Type} (f : Nat → α) (n : Nat) : (List.range (n + 1)).map f = (List.range n).map f ++ [f n] := by
  rw [List.range_succ, List.map_append]
  rfl
def G_laid_beside : GF := fun ls Po _ => ∃ (ts : List (List Str)) (ps ys : List PyData) (p : Pc), ls = [.d (.list ys), .d (pcD p)] ∧ (Laid ts ps ys ∧ ∀ q, q ∈ ps → ∀ x, fitT (txt ts) q x (p.2.2.2 - p.2.1) ↔ (leastI fun x => fitT (txt ts) q x (p.2.2.2 - p.2.1)) ≤ x) ∧ Po (.new ((List.range ps.length).map fun j => pcD (pcB (txt ts) ps p j))) []
theorem ok_laid_beside (T : Txt K mg) : FnOk P w K mg base CX0 2 T.f_laid_beside T.fd_laid_beside ["parts", "piece"] (SpG K none G_laid_beside) := by
  refine T.d_laid_beside.F.ok sc_laid_beside (SpG.len (n := 2) fun ls Po Pe h => by obtain ⟨_, _, _, _, rfl, _⟩ := h; rfl) (fun cdv A outer s H vs Q E hr h => ⟨_, (pss_cons (ps_asg (pv 1) (k_gTup (n := 4) K rfl rfl (pgs_cons (pg_name (i := 2) sc_laid_beside.nd rfl (Or.inl rfl)) (pgs_cons (pg_name (i := 3) sc_laid_beside.nd rfl (Or.inl rfl)) (pgs_cons (pg_name (i := 4) sc_laid_beside.nd rfl (Or.inl rfl)) (pgs_cons (pg_name (i := 5) sc_laid_beside.nd rfl (Or.inl rfl)) pgs_nil))))))
 (pss_cons (ps_setO (i := 6) sc_laid_beside.nd rfl (.inl rfl) (pe_lst pa_nil))
 (pss_cons (ps_for PassesOwn.never rfl (k_piL K rfl (pe_slice (k_sl K) (pv 0) po_none (po_some (pe_un un_neg pe_int)))) (pg_name (i := 7) sc_laid_beside.nd rfl (Or.inl rfl)) (pss_cons (ps_set (i := 8) sc_laid_beside.nd rfl (.inl rfl) (pe_call (ok_wide_for T) hr (by rfl) T.d_wide_for.g T.d_wide_for.kp T.d_wide_for.b .nil pass0 (pa_cons (pe_ix (k_ix K) (pv 7) pe_int (fun _ _ => rfl)) (pa_cons (pe_op op_sub (pv 5) (pv 3)) pa_nil))))
 (pss_cons (ps_expr (k_bm K rfl PySem.F.plainAttrs_list PySem.F.slot_list_append PySem.F.type_list_append mt_append (pv 6) (pa_cons (pe_tup (pa_cons (pv 2) (pa_cons (pv 3) (pa_cons (pe_op (k_plus K) (pv 2) (pv 8)) (pa_cons (pv 5) pa_nil))))) pa_nil)))
 (pss_one (ps_aug (i := 2) sc_laid_beside.nd rfl (.inl rfl) (pv 8) ip_add)))))
 (pss_cons (ps_expr (k_bm K rfl PySem.F.plainAttrs_list PySem.F.slot_list_append PySem.F.type_list_append mt_append (pv 6) (pa_cons (pe_tup (pa_cons (pv 2) (pa_cons (pv 3) (pa_cons (pv 4) (pa_cons (pv 5) pa_nil))))) pa_nil)))
 (pss_one (ps_ret (pv 6))))))), rd_of h fun B ls Po Pe hB hG hE => ?_⟩)
  obtain ⟨ts, ps, ys, ⟨l, t, r, b⟩, rfl, ⟨hL, hF⟩, q⟩ := hG
  dsimp only at hF
  have hlen := hL.len
  have hle := hL.le
  have hpos := hL.pos
  show WS B K _ [some (.d (.list ys)), some (.d (.tuple [.int l, .int t, .int r, .int b])), none, none, none, none, none, none, none] _
  walk_at "sn"
  refine ws_forL (fun y : PyData => y) ?_
  walk_at "sn"
  refine ⟨ys.dropLast, by rw [cut_drop, List.map_id'], fun pre ρ' => ∃ (o7 o8 : Option L), ρ' = [some (.d (.list ys)), some (.d (.tuple [.int l, .int t, .int r, .int b])), some (.d (.int (spA (lsB (txt ts) ps (b - t)) l r pre.length).1)), some (.d (.int t)), some (.d (.int r)), some (.d (.int b)), some (.own ((List.range pre.length).map fun j => pcD (pcB (txt ts) ps (l, t, r, b) j))), o7, o8], ⟨_, _, by rw [List.length_nil, spA_zero]; rfl⟩, fun pre a post ρ2 ha hI => ?_, fun ρ2 hI => ?_⟩
  · obtain ⟨o7, o8, rfl⟩ := hI
    obtain ⟨ea, hlt⟩ := drop_split ha
    obtain ⟨x, R, z, ex, rfl, hR, hRl⟩ := hL.at' ea
    have hls := lsB_at (tx := txt ts) (h := b - t) ex
    have hll : (lsB (txt ts) ps (b - t)).length = ps.length := by unfold lsB; rw [List.length_map]
    walk_at "sn"
    refine ⟨R, b - t, rfl, ⟨hR.sc, hRl⟩, fun o ho => ⟨_, rfl, ?_⟩⟩
    have eo := leastX_some (F := fun x => fitT (txt ts) _ x (b - t)) (fun y => (hR.up y (b - t)).symm.trans (ho y)) (hF _ (List.mem_of_getElem? ex))
    subst eo
    have e1 := spA_fst_succ (a := l) (z := r) hls
    have e2 := spA_snd (a := l) (z := r) hls (by omega)
    walk_at "sn"
    refine ⟨by rw [List.length_map, List.length_range]; show pre.length < 1000000; omega, ?_⟩
    have e3 : pcD (pcB (txt ts) ps (l, t, r, b) pre.length) = .tuple [.int (spA (lsB (txt ts) ps (b - t)) l r pre.length).1, .int t, .int ((spA (lsB (txt ts) ps (b - t)) l r pre.length).1 + leastI fun x_1 => fitT (txt ts) x x_1 (b - t)), .int b] := by
      rw [← e2]
      rfl
    walk_at "sn"
    refine ⟨some (.d (.tuple [x, partD R, z])), some (.d (.int (leastI fun x_1 => fitT (txt ts) x x_1 (b - t)))), ?_⟩
    rw [List.length_append, List.length_singleton, range_snoc, e1, e3]
    rfl
  · obtain ⟨o7, o8, rfl⟩ := hI
    rw [List.length_dropLast]
    walk_at "sn"
    refine ⟨by rw [List.length_map, List.length_range]; show ys.length - 1 < 1000000; omega, ?_⟩
    walk_at "sn"
    have hn : ps.length = ys.length - 1 + 1 := by omega
    have e3 : pcD (pcB (txt ts) ps (l, t, r, b) (ys.length - 1)) = .tuple [.int (spA (lsB (txt ts) ps (b - t)) l r (ys.length - 1)).1, .int t, .int r, .int b] := by
      have e4 := spA_last (ls := lsB (txt ts) ps (b - t)) (a := l) (z := r) (k := ys.length - 1) (by unfold lsB; rw [List.length_map]; omega)
      unfold pcB pcD
      dsimp only
      rw [e4]
    rw [hn, range_snoc, e3] at q
    exact q
def G_laid_beneath : GF := fun ls Po _ => ∃ (ts : List (List Str)) (ps ys : List PyData) (p : Pc), ls = [.d (.list ys), .d (pcD p)] ∧ (Laid ts ps ys ∧ ∀ q, q ∈ ps → ∀ y, fitT (txt ts) q (p.2.2.1 - p.1) y ↔ (leastI fun y => fitT (txt ts) q (p.2.2.1 - p.1) y) ≤ y) ∧ Po (.new ((List.range ps.length).map fun j => pcD (pcH (txt ts) ps p j))) []
theorem ok_laid_beneath (T : Txt K mg) : FnOk P w K mg base CX0 2 T.f_laid_beneath T.fd_laid_beneath ["parts", "piece"] (SpG K none G_laid_beneath) := by
  refine T.d_laid_beneath.F.ok sc_laid_beneath (SpG.len (n := 2) fun ls Po Pe h => by obtain ⟨_, _, _, _, rfl, _⟩ := h; rfl) (fun cdv A outer s H vs Q E hr h => ⟨_, (pss_cons (ps_asg (pv 1) (k_gTup (n := 4) K rfl rfl (pgs_cons (pg_name (i := 2) sc_laid_beneath.nd rfl (Or.inl rfl)) (pgs_cons (pg_name (i := 3) sc_laid_beneath.nd rfl (Or.inl rfl)) (pgs_cons (pg_name (i := 4) sc_laid_beneath.nd rfl (Or.inl rfl)) (pgs_cons (pg_name (i := 5) sc_laid_beneath.nd rfl (Or.inl rfl)) pgs_nil))))))
 (pss_cons (ps_setO (i := 6) sc_laid_beneath.nd rfl (.inl rfl) (pe_lst pa_nil))
 (pss_cons (ps_for PassesOwn.never rfl (k_piL K rfl (pe_slice (k_sl K) (pv 0) po_none (po_some (pe_un un_neg pe_int)))) (pg_name (i := 7) sc_laid_beneath.nd rfl (Or.inl rfl)) (pss_cons (ps_set (i := 8) sc_laid_beneath.nd rfl (.inl rfl) (pe_call (ok_high_for T) hr (by rfl) T.d_high_for.g T.d_high_for.kp T.d_high_for.b .nil pass0 (pa_cons (pe_ix (k_ix K) (pv 7) pe_int (fun _ _ => rfl)) (pa_cons (pe_op op_sub (pv 4) (pv 2)) pa_nil))))
 (pss_cons (ps_expr (k_bm K rfl PySem.F.plainAttrs_list PySem.F.slot_list_append PySem.F.type_list_append mt_append (pv 6) (pa_cons (pe_tup (pa_cons (pv 2) (pa_cons (pv 3) (pa_cons (pv 4) (pa_cons (pe_op (k_plus K) (pv 3) (pv 8)) pa_nil))))) pa_nil)))
 (pss_one (ps_aug (i := 3) sc_laid_beneath.nd rfl (.inl rfl) (pv 8) ip_add)))))
 (pss_cons (ps_expr (k_bm K rfl PySem.F.plainAttrs_list PySem.F.slot_list_append PySem.F.type_list_append mt_append (pv 6) (pa_cons (pe_tup (pa_cons (pv 2) (pa_cons (pv 3) (pa_cons (pv 4) (pa_cons (pv 5) pa_nil))))) pa_nil)))
 (pss_one (ps_ret (pv 6))))))), rd_of h fun B ls Po Pe hB hG hE => ?_⟩)
  obtain ⟨ts, ps, ys, ⟨l, t, r, b⟩, rfl, ⟨hL, hF⟩, q⟩ := hG
  dsimp only at hF
  have hlen := hL.len
  have hle := hL.le
  have hpos := hL.pos
  show WS B K _ [some (.d (.list ys)), some (.d (.tuple [.int l, .int t, .int r, .int b])), none, none, none, none, none, none, none] _
  walk_at "sn"
  refine ws_forL (fun y : PyData => y) ?_
  walk_at "sn"
  refine ⟨ys.dropLast, by rw [cut_drop, List.map_id'], fun pre ρ' => ∃ (o7 o8 : Option L), ρ' = [some (.d (.list ys)), some (.d (.tuple [.int l, .int t, .int r, .int b])), some (.d (.int l)), some (.d (.int (spA (lsD (txt ts) ps (r - l)) t b pre.length).1)), some (.d (.int r)), some (.d (.int b)), some (.own ((List.range pre.length).map fun j => pcD (pcH (txt ts) ps (l, t, r, b) j))), o7, o8], ⟨_, _, by rw [List.length_nil, spA_zero]; rfl⟩, fun pre a post ρ2 ha hI => ?_, fun ρ2 hI => ?_⟩
  · obtain ⟨o7, o8, rfl⟩ := hI
    obtain ⟨ea, hlt⟩ := drop_split ha
    obtain ⟨x, R, z, ex, rfl, hR, hRl⟩ := hL.at' ea
    have hls := lsD_at (tx := txt ts) (w := r - l) ex
    have hll : (lsD (txt ts) ps (r - l)).length = ps.length := by unfold lsD; rw [List.length_map]
    walk_at "sn"
    refine ⟨R, r - l, rfl, ⟨hR.sc, hRl⟩, fun o ho => ⟨_, rfl, ?_⟩⟩
    have eo := tab_some (F := fun a y => fitT (txt ts) _ a y) (fun y => (hR.up (r - l) y).symm.trans (ho y)) (hF _ (List.mem_of_getElem? ex))
    subst eo
    have e1 := spA_fst_succ (a := t) (z := b) hls
    have e2 := spA_snd (a := t) (z := b) hls (by omega)
    walk_at "sn"
    refine ⟨by rw [List.length_map, List.length_range]; show pre.length < 1000000; omega, ?_⟩
    have e3 : pcD (pcH (txt ts) ps (l, t, r, b) pre.length) = .tuple [.int l, .int (spA (lsD (txt ts) ps (r - l)) t b pre.length).1, .int r, .int ((spA (lsD (txt ts) ps (r - l)) t b pre.length).1 + leastI fun y => fitT (txt ts) x (r - l) y)] := by
      rw [← e2]
      rfl
    walk_at "sn"
    refine ⟨some (.d (.tuple [x, partD R, z])), some (.d (.int (leastI fun y => fitT (txt ts) x (r - l) y))), ?_⟩
    rw [List.length_append, List.length_singleton, range_snoc, e1, e3]
    rfl
  · obtain ⟨o7, o8, rfl⟩ := hI
    rw [List.length_dropLast]
    walk_at "sn"
    refine ⟨by rw [List.length_map, List.length_range]; show ys.length - 1 < 1000000; omega, ?_⟩
    walk_at "sn"
    have hn : ps.length = ys.length - 1 + 1 := by omega
    have e3 : pcD (pcH (txt ts) ps (l, t, r, b) (ys.length - 1)) = .tuple [.int l, .int (spA (lsD (txt ts) ps (r - l)) t b (ys.length - 1)).1, .int r, .int b] := by
      have e4 := spA_last (ls := lsD (txt ts) ps (r - l)) (a := t) (z := b) (k := ys.length - 1) (by unfold lsD; rw [List.length_map]; omega)
      unfold pcH pcD
      dsimp only
      rw [e4]
    rw [hn, range_snoc, e3] at q
    exact q

/-! ### _law_stir, _law_cell, _law_word -/
def G_law_stir : GF := fun ls Po _ => ∃ c k : Int, ls = [.d (.int c), .d (.int k)] ∧ (0 ≤ k ∧ k < 1000000) ∧ ∀ z : Int, 0 ≤ z → Po (.d (.int z)) []
theorem ok_law_stir (T : Txt K mg) : FnOk P w K mg base CX0 1 T.f_law_stir T.fd_law_stir ["cell", "k"] (SpG K none G_law_stir) := by
  refine T.d_law_stir.F.ok sc_law_stir (SpG.len (n := 2) fun ls Po Pe h => by obtain ⟨_, _, rfl, _⟩ := h; rfl) (fun cdv A outer s H vs Q E hr h => ⟨_, (pss_cons (ps_set (i := 2) sc_law_stir.nd rfl (.inl rfl) (pe_op op_modN (pe_op op_mul (pe_op (k_plus K) (pe_op (k_plus K) (pe_op op_modN (pv 0) pe_int) (pe_op op_mul pe_int (pv 1))) pe_int) pe_int) pe_int))
 (pss_cons (ps_set (i := 2) sc_law_stir.nd rfl (.inl rfl) (pe_op op_modN (pe_op op_mul (pv 2) (pv 2)) pe_int))
 (pss_one (ps_ret (pe_op op_modN (pe_op op_mul (pv 2) pe_int) pe_int))))), rd_of h fun B ls Po Pe hB hG hE => ?_⟩)
  obtain ⟨c, k, rfl, ⟨h0, h1⟩, q⟩ := hG
  show WS B K _ [some (.d (.int c)), some (.d (.int k)), none] _
  have c0 := Int.emod_nonneg c (show (2147483629 : Int) ≠ 0 by decide)
  have c1 := Int.emod_lt_of_pos c (show (0 : Int) < 2147483629 by decide)
  walk_at "sn"
  have d0 := Int.emod_nonneg ((c % 2147483629 + 7919 * k + 1) * 48271) (show (2147483647 : Int) ≠ 0 by decide)
  have d1 := Int.emod_lt_of_pos ((c % 2147483629 + 7919 * k + 1) * 48271) (show (0 : Int) < 2147483647 by decide)
  generalize (c % 2147483629 + 7919 * k + 1) * 48271 % 2147483647 = n at d0 d1 ⊢
  walk_at "sn"
  have e0 := Int.emod_nonneg (n * n) (show (2147483629 : Int) ≠ 0 by decide)
  have e1 := Int.emod_lt_of_pos (n * n) (show (0 : Int) < 2147483629 by decide)
  generalize n * n % 2147483629 = m at e0 e1 ⊢
  walk_at "sn"
  exact q _ (Int.emod_nonneg _ (by decide))
def G_law_cell : GF := fun ls Po _ => ∃ (ns : List Int) (k : Int), ls = [.scr ns, .d (.int k)] ∧ (0 ≤ k ∧ k < 900 ∧ ns.length ≤ 63) ∧ ∀ z : Int, Po (.d (.int z)) []
theorem ok_law_cell (T : Txt K mg) : FnOk P w K mg base CX0 2 T.f_law_cell T.fd_law_cell ["script", "k"] (SpG K none G_law_cell) := by
  refine T.d_law_cell.F.ok sc_law_cell (SpG.len (n := 2) fun ls Po Pe h => by obtain ⟨_, _, rfl, _⟩ := h; rfl) (fun cdv A outer s H vs Q E hr h => ⟨_, (pss_cons (ps_if (pt_cmpR op_lt (pv 1) (pe_callB (k_len K) (by rfl) T.b_len PySem.boot_len (pa_cons (pv 0) pa_nil)) (nomark _)) (pss_one (ps_ret (pe_ix (k_ix K) (pv 0) (pv 1) (fun _ _ => rfl)))) pss_nil)
 (pss_cons (ps_if (pt_cmpR (k_eqD K rfl hr.units) (pe_callB (k_len K) (by rfl) T.b_len PySem.boot_len (pa_cons (pv 0) pa_nil)) pe_int (nomark _)) (pss_one (ps_ret (pe_call (ok_law_stir T) hr (by rfl) T.d_law_stir.g T.d_law_stir.kp T.d_law_stir.b .nil pass0 (pa_cons (pe_op op_mul (pv 1) (pv 1)) (pa_cons (pv 1) pa_nil))))) pss_nil)
 (pss_one (ps_ret (pe_call (ok_law_stir T) hr (by rfl) T.d_law_stir.g T.d_law_stir.kp T.d_law_stir.b .nil pass0 (pa_cons (pe_ix (k_ix K) (pv 0) (pe_op op_modN (pv 1) (pe_callB (k_len K) (by rfl) T.b_len PySem.boot_len (pa_cons (pv 0) pa_nil))) (fun _ _ => rfl)) (pa_cons (pv 1) pa_nil))))))), rd_of h fun B ls Po Pe hB hG hE => ?_⟩)
  obtain ⟨ns, k, rfl, ⟨h0, h1, hn⟩, q⟩ := hG
  show WS B K _ [some (.scr ns), some (.d (.int k))] _
  have hkk : 0 ≤ k * k ∧ k * k < 1000000 := by
    have a1 : k * k ≤ 900 * k := Int.mul_le_mul_of_nonneg_right (by omega) h0
    have a2 := Int.mul_nonneg h0 h0
    omega
  walk_at "sv"
  · obtain ⟨z, hz, _⟩ := atI_lt (xs := ns) h0 (by omega)
    exact ⟨k, z, rfl, hz, q z⟩
  · exact ⟨k * k, k, rfl, ⟨by omega, by omega⟩, fun z _ => q z⟩
  · have e0 := Int.emod_nonneg k (show (ns.length : Int) ≠ 0 by omega)
    have e1 := Int.emod_lt_of_pos k (show 0 < (ns.length : Int) by omega)
    obtain ⟨z, hz, _⟩ := atI_lt (xs := ns) e0 e1
    refine ⟨_, z, rfl, hz, ?_⟩
    walk_at "sv"
    exact ⟨z, k, rfl, ⟨by omega, by omega⟩, fun z _ => q z⟩
def G_law_word : GF := fun ls Po _ => ∃ c : Int, ls = [.d (.int c)] ∧ ∀ x : Str, IsWord x → Po (.d (.str x)) []
theorem ok_law_word (T : Txt K mg) : FnOk P w K mg base CX0 1 T.f_law_word T.fd_law_word ["cell"] (SpG K none G_law_word) := by
  refine T.d_law_word.F.ok sc_law_word (SpG.len (n := 1) fun ls Po Pe h => by obtain ⟨_, rfl, _⟩ := h; rfl) (fun cdv A outer s H vs Q E hr h => ⟨_, (pss_cons (ps_set (i := 1) sc_law_word.nd rfl (.inl rfl) pe_str)
 (pss_cons (ps_set (i := 2) sc_law_word.nd rfl (.inl rfl) pe_str)
 (pss_cons (ps_set (i := 3) sc_law_word.nd rfl (.inl rfl) (pe_op op_fdivN (pv 0) pe_int))
 (pss_cons (ps_for PassesOwn.never rfl (pi_range1 (by rfl) T.b_range (pa_cons (pe_op (k_plus K) pe_int (pe_op op_modN (pv 0) pe_int)) pa_nil)) (pg_name (i := 4) sc_law_word.nd rfl (Or.inl rfl)) (pss_cons (ps_set (i := 2) sc_law_word.nd rfl (.inl rfl) (pe_op (k_plus K) (pv 2) (pe_ix (k_ix K) (pv 1) (pe_op op_modN (pv 3) pe_int) (fun _ _ => rfl))))
 (pss_one (ps_set (i := 3) sc_law_word.nd rfl (.inl rfl) (pe_op (k_plus K) (pe_op op_fdivN (pv 3) pe_int) (pe_op op_mul pe_int (pv 4)))))))
 (pss_one (ps_ret (pv 2))))))), rd_of h fun B ls Po Pe hB hG hE => ?_⟩)
  obtain ⟨c, rfl, q⟩ := hG
  show WS B K _ [some (.d (.int c)), none, none, none, none] _
  have d0 := Int.emod_nonneg c (show (12 : Int) ≠ 0 by decide)
  have d1 := Int.emod_lt_of_pos c (show (0 : Int) < 12 by decide)
  have hsl := someS_len
  walk_at "sn"
  refine ⟨fun pre ρ' => ∃ (x : Str) (z : Int) (o4 : Option L), (x.length = pre.length ∧ ∀ c, c ∈ x.cps.toList → c ∈ someS.cps.toList) ∧ ρ' = [some (.d (.int c)), some (.d (.str someS)), some (.d (.str x)), some (.d (.int z)), o4], ⟨Str.ofString "", _, _, ⟨by decide +kernel, fun c hc => by rw [show (Str.ofString "").cps.toList = [] by decide +kernel] at hc; cases hc⟩, rfl⟩, fun pre a post ρ2 ha hI => ?_, fun ρ2 hI => ?_⟩
  · obtain ⟨x, z, o4, ⟨hx, hc⟩, rfl⟩ := hI
    obtain ⟨ea, hpn⟩ := ixs_split ha
    refine wg_name (np_of hB (by decide)) ?_
    have z0 := Int.emod_nonneg z (show (93 : Int) ≠ 0 by decide)
    have z1 := Int.emod_lt_of_pos z (show (0 : Int) < 93 by decide)
    obtain ⟨y, hy, hm⟩ := atI_lt (xs := someS.cps.toList) z0 (by omega)
    walk_at "sn"
    refine idx_str (by decide +kernel) hy ?_
    have hy1 : (⟨#[y]⟩ : Str).length = 1 := rfl
    have hxl : x.length + (⟨#[y]⟩ : Str).length ≤ lim := by rw [hx, hy1]; show pre.length + 1 ≤ 1000000; omega
    walk_at "sn"
    all_goals first | exact hxl | skip
    refine ⟨x ++ ⟨#[y]⟩, _, _, ⟨by rw [app_len, hx, hy1, List.length_append]; rfl, fun c' hc' => ?_⟩, rfl⟩
    rw [app_list] at hc'
    rcases List.mem_append.mp hc' with h | h
    · exact hc c' h
    · rw [show c' = y by simpa using h]
      exact hm
  · obtain ⟨x, z, o4, ⟨hx, hc⟩, rfl⟩ := hI
    rw [ixs_len] at hx
    walk_at "sn"
    exact q x ⟨by omega, by omega, hc⟩

/-! ### shapes: trees without numbers -/
mutual
def shN : Str → PyData → Option Nat
  | ab, .tuple [.str k, .tuple ps] => if goodK ab k ps.length then shNs k ps else none
  | _, .none => some 1
  | _, _ => none
def shNs : Str → List PyData → Option Nat
  | _, [] => some 0
  | k, p :: ps => (shN k p).bind fun a => (shNs k ps).map fun b => a + b
end
theorem shN_none (ab : Str) : shN ab .none = some 1 := by rw [shN]
theorem shN_knot (ab k : Str) (ps : List PyData) : shN ab (.tuple [.str k, .tuple ps]) = if goodK ab k ps.length then shNs k ps else none := by rw [shN]
theorem shNs_nil (k : Str) : shNs k [] = some 0 := by rw [shNs]
theorem shNs_cons (k : Str) (p : PyData) (ps : List PyData) : shNs k (p :: ps) = (shN k p).bind fun a => (shNs k ps).map fun b => a + b := by rw [shNs]
theorem shN_cases {ab : Str} {x : PyData} {n : Nat} (h : shN ab x = some n) : (x = .none ∧ n = 1) ∨ ∃ k ps, x = .tuple [.str k, .tuple ps] ∧ goodK ab k ps.length = true ∧ shNs k ps = some n := by
  unfold shN at h
  split at h
  · rename_i k ps
    by_cases c : goodK ab k ps.length = true
    · rw [if_pos c] at h
      exact .inr ⟨k, ps, rfl, c, h⟩
    · rw [if_neg c] at h
      cases h
  · cases h
    exact .inl ⟨rfl, rfl⟩
  · cases h
theorem shNs_consI {k : Str} {p : PyData} {ps : List PyData} {n : Nat} (h : shNs k (p :: ps) = some n) : ∃ a b, shN k p = some a ∧ shNs k ps = some b ∧ n = a + b := by
  rw [shNs_cons] at h
  cases e1 : shN k p with
  | none => rw [e1] at h; cases h
  | some a =>
    cases e2 : shNs k ps with
    | none => rw [e1, e2] at h; cases h
    | some b =>
      rw [e1, e2] at h
      exact ⟨a, b, rfl, rfl, (Option.some.inj h).symm⟩
theorem shNs_app {k : Str} : ∀ {as bs : List PyData} {m n : Nat}, shNs k as = some m → shNs k bs = some n → shNs k (as ++ bs) = some (m + n)
  | [], bs, m, n, h1, h2 => by
    rw [shNs_nil] at h1
    cases h1
    rw [List.nil_append, Nat.zero_add]
    exact h2
  | a :: as, bs, m, n, h1, h2 => by
    obtain ⟨x, y, e1, e2, rfl⟩ := shNs_consI h1
    rw [List.cons_append, shNs_cons, e1, shNs_app e2 h2]
    show some (x + (y + n)) = some (x + y + n)
    rw [Nat.add_assoc]
theorem shNs_one {k : Str} {x : PyData} {n : Nat} (h : shN k x = some n) : shNs k [x] = some n := by
  rw [shNs_cons, h, shNs_nil]
  rfl
theorem shNs_rep (k : Str) : ∀ n : Nat, shNs k (List.replicate n .none) = some n
  | 0 => shNs_nil k
  | n + 1 => by
    rw [List.replicate_succ, shNs_cons, shN_none, shNs_rep k n]
    show some (1 + n) = some (n + 1)
    rw [Nat.add_comm]
theorem shN_pos {ab : Str} : ∀ (d : Nat) {x : PyData} {n : Nat}, nodes x ≤ d → shN ab x = some n → 1 ≤ n
  | 0, x, n, hd, h => by have := nodes_pos x; omega
  | d + 1, x, n, hd, h => by
    rcases shN_cases h with ⟨_, rfl⟩ | ⟨k, ps, rfl, hg, hn⟩
    · exact Nat.le_refl _
    · have h2 := (of_decide_eq_true hg).2.2
      rw [nodes_knot] at hd
      cases ps with
      | nil => simp at h2
      | cons p ps =>
        obtain ⟨a, b, e1, e2, rfl⟩ := shNs_consI hn
        rw [nodess_cons] at hd
        have := shN_pos (ab := k) d (by omega) e1
        omega
theorem shNs_len {k : Str} : ∀ {ps : List PyData} {n : Nat}, shNs k ps = some n → ps.length ≤ n
  | [], n, h => Nat.zero_le _
  | p :: ps, n, h => by
    obtain ⟨a, b, e1, e2, rfl⟩ := shNs_consI h
    have := shNs_len e2
    have := shN_pos (nodes p) (Nat.le_refl _) e1
    rw [List.length_cons]
    omega
theorem shNs_mem {k : Str} : ∀ {ps : List PyData} {n : Nat}, shNs k ps = some n → ∀ p, p ∈ ps → ∃ m, shN k p = some m ∧ m + ps.length ≤ n + 1
  | [], n, h, p, hp => nomatch hp
  | q :: ps, n, h, p, hp => by
    obtain ⟨a, b, e1, e2, rfl⟩ := shNs_consI h
    rw [List.length_cons]
    have hl := shNs_len e2
    have h1 := shN_pos (nodes q) (Nat.le_refl _) e1
    rcases List.mem_cons.mp hp with rfl | hp
    · exact ⟨a, e1, by omega⟩
    · obtain ⟨m, e3, h3⟩ := shNs_mem e2 p hp
      exact ⟨m, e3, by omega⟩
/-! the pile: knots that are open -/
abbrev Fr2 := Str × List PyData
def othS (k : Str) : Str := if k = barS then dashS else barS
theorem oth_ok {k : Str} (h : k = barS ∨ k = dashS) : (othS k = barS ∨ othS k = dashS) ∧ othS k ≠ k := by
  rcases h with rfl | rfl
  · unfold othS; rw [if_pos rfl]; exact ⟨.inr rfl, dash_ne⟩
  · unfold othS; rw [if_neg dash_ne]; exact ⟨.inl rfl, fun h => dash_ne h.symm⟩
inductive Pile (top : Str) : List Fr2 → Fr2 → Nat → Prop
  | one {ps : List PyData} {n : Nat} : shNs top ps = some n → Pile top [] (top, ps) n
  | push {g : List Fr2} {l : Fr2} {ps : List PyData} {m n : Nat} : Pile top g l m → shNs (othS l.1) ps = some n → Pile top (g ++ [l]) (othS l.1, ps) (m + n)
theorem Pile.kind {top : Str} (ht : top = barS ∨ top = dashS) {g : List Fr2} {l : Fr2} {n : Nat} (h : Pile top g l n) : l.1 = barS ∨ l.1 = dashS := by
  induction h with
  | one _ => exact ht
  | push _ _ ih => exact (oth_ok ih).1
theorem Pile.put {top : Str} {g : List Fr2} {l : Fr2} {n : Nat} (h : Pile top g l n) {qs : List PyData} {m : Nat} (hq : shNs l.1 qs = some m) : Pile top g (l.1, l.2 ++ qs) (n + m) := by
  cases h with
  | one h => exact .one (shNs_app h hq)
  | push h h2 => rw [Nat.add_assoc]; exact .push h (shNs_app h2 hq)
theorem Pile.pop {top : Str} {g : List Fr2} {l m : Fr2} {n : Nat} (h : Pile top (g ++ [m]) l n) : ∃ a b, Pile top g m a ∧ l.1 = othS m.1 ∧ shNs l.1 l.2 = some b ∧ n = a + b := by
  generalize hg : g ++ [m] = g' at h
  cases h with
  | one h => simp at hg
  | push h h2 =>
    obtain ⟨e1, e2⟩ := List.append_inj' hg rfl
    cases e1
    cases e2
    exact ⟨_, _, h, rfl, h2, rfl⟩
theorem Pile.last {top : Str} {g : List Fr2} {l : Fr2} {n : Nat} (h : Pile top g l n) : ∃ b, shNs l.1 l.2 = some b ∧ b ≤ n := by
  cases h with
  | one h => exact ⟨_, h, Nat.le_refl _⟩
  | push h h2 => exact ⟨_, h2, Nat.le_add_left _ _⟩
/-- a knot that is closed becomes a part of the one below -/
theorem Pile.close {top : Str} (ht : top = barS ∨ top = dashS) {g : List Fr2} {l m : Fr2} {n j : Nat} (h : Pile top (g ++ [m]) l n) (hl : 2 ≤ l.2.length + j) : Pile top g (m.1, m.2 ++ [.tuple [.str l.1, .tuple (l.2 ++ List.replicate j .none)]]) (n + j) := by
  obtain ⟨a, b, h1, h2, h3, rfl⟩ := h.pop
  rw [Nat.add_assoc]
  refine h1.put (shNs_one ?_)
  rw [shN_knot]
  have hk := oth_ok (h1.kind ht)
  rw [h2] at h3 ⊢
  rw [if_pos]
  · exact shNs_app h3 (shNs_rep _ _)
  · exact decide_eq_true ⟨hk.1, hk.2, by rw [List.length_append, List.length_replicate]; exact hl⟩
theorem Pile.done {top : Str} (ht : top = barS ∨ top = dashS) {l : Fr2} {n j : Nat} (h : Pile top [] l n) (hl : 2 ≤ l.2.length + j) : l.1 = top ∧ shN Str.empty (.tuple [.str top, .tuple (l.2 ++ List.replicate j .none)]) = some (n + j) := by
  generalize hg : ([] : List Fr2) = g' at h
  cases h with
  | one h =>
    refine ⟨rfl, ?_⟩
    rw [shN_knot, if_pos]
    · exact shNs_app h (shNs_rep _ _)
    · refine decide_eq_true ⟨ht, fun z => ?_, by rw [List.length_append, List.length_replicate]; exact hl⟩
      rcases ht with rfl | rfl
      · exact absurd z (by decide +kernel)
      · exact absurd z (by decide +kernel)
  | push h h2 => simp at hg
/-- what is lacking -/
def lk1 (f : Fr2) : Int := if (1 : Int) - (f.2.length : Int) > 0 then 1 - (f.2.length : Int) else 0
def lk2 (f : Fr2) : Int := if (2 : Int) - (f.2.length : Int) > 0 then 2 - (f.2.length : Int) else 0
def lkS (g : List Fr2) : Int := (g.map lk1).sum
theorem lkS_snoc (g : List Fr2) (f : Fr2) : lkS (g ++ [f]) = lkS g + lk1 f := by
  unfold lkS
  rw [List.map_append, List.sum_append]
  simp
theorem lk1_nn (f : Fr2) : 0 ≤ lk1 f := by unfold lk1; split <;> omega
theorem lk2_nn (f : Fr2) : 0 ≤ lk2 f := by unfold lk2; split <;> omega
theorem lkS_nn : ∀ g : List Fr2, 0 ≤ lkS g
  | [] => Int.le_refl _
  | f :: g => by
    have := lkS_nn g
    have := lk1_nn f
    have e : lkS (f :: g) = lk1 f + lkS g := by unfold lkS; rw [List.map_cons, List.sum_cons]
    omega
def frD (f : Fr2) : PyData := .list [.str f.1, .list f.2]
def frO (q r : Addr) (f : Fr2) : OT := .lst q [.d (.str f.1), .lst r (f.2.map .d)]
inductive FrOs : List OT → List Fr2 → Prop
  | nil : FrOs [] []
  | snoc {os : List OT} {fs : List Fr2} {q r : Addr} {f : Fr2} : FrOs os fs → FrOs (os ++ [frO q r f]) (fs ++ [f])
theorem FrOs.len {os : List OT} {fs : List Fr2} (h : FrOs os fs) : os.length = fs.length := by
  induction h with
  | nil => rfl
  | snoc _ ih => rw [List.length_append, List.length_append, ih]; rfl
theorem FrOs.inv {os : List OT} {g : List Fr2} {l : Fr2} (h : FrOs os (g ++ [l])) : ∃ os' q r, os = os' ++ [frO q r l] ∧ FrOs os' g := by
  generalize hg : g ++ [l] = fs at h
  cases h with
  | nil => simp at hg
  | snoc h =>
    obtain ⟨e1, e2⟩ := List.append_inj' hg rfl
    cases e1
    cases e2
    exact ⟨_, _, _, rfl, h⟩
theorem frO_data (q r : Addr) (f : Fr2) : (frO q r f).data = frD f := by
  show PyData.list [.str f.1, .list (datas (f.2.map .d))] = _
  rw [datas_map_d]
  rfl
theorem frO_isD (q r : Addr) (f : Fr2) : (frO q r f).isD = true := by
  show (true && (areD (f.2.map .d) && true)) = true
  rw [areD_map_d]
  rfl
theorem FrOs.data {os : List OT} {fs : List Fr2} (h : FrOs os fs) : datas os = fs.map frD ∧ areD os = true := by
  induction h with
  | nil => exact ⟨rfl, rfl⟩
  | @snoc os fs q r f _ ih =>
    refine ⟨?_, ?_⟩
    · rw [datas_app, List.map_append, ih.1]
      show _ ++ [(frO q r f).data] = _
      rw [frO_data]
      rfl
    · rw [areD_app, ih.2]
      show (true && ((frO q r f).isD && true)) = true
      rw [frO_isD]
      rfl

/-! ### _law_lack -/
def G_law_lack : GF := fun ls Po _ => ∃ (g : List Fr2) (l : Fr2), ls = [.d (.list ((g ++ [l]).map frD))] ∧ (g.length ≤ 100 ∧ (∀ f, f ∈ g ++ [l] → f.2.length ≤ 100)) ∧ Po (.d (.int (lk2 l + lkS g))) []
theorem ok_law_lack (T : Txt K mg) : FnOk P w K mg base CX0 1 T.f_law_lack T.fd_law_lack ["pile"] (SpG K none G_law_lack) := by
  refine T.d_law_lack.F.ok sc_law_lack (SpG.len (n := 1) fun ls Po Pe h => by obtain ⟨_, _, rfl, _⟩ := h; rfl) (fun cdv A outer s H vs Q E hr h => ⟨_, (pss_cons (ps_set (i := 1) sc_law_lack.nd rfl (.inl rfl) (pe_callB (call_max2 rfl) (by rfl) T.b_max (by decide +kernel) (pa_cons pe_int (pa_cons (pe_op op_sub pe_int (pe_callB (k_len K) (by rfl) T.b_len PySem.boot_len (pa_cons (pe_ix (k_ix K) (pe_ix (k_ix K) (pv 0) (pe_un un_neg pe_int) (fun _ _ => rfl)) pe_int (fun _ _ => rfl)) pa_nil))) pa_nil))))
 (pss_cons (ps_for PassesOwn.never rfl (k_piL K rfl (pe_slice (k_sl K) (pv 0) po_none (po_some (pe_un un_neg pe_int)))) (k_gLst (n := 2) K rfl rfl (pgs_cons (pg_name (i := 2) sc_law_lack.nd rfl (Or.inl rfl)) (pgs_cons (pg_name (i := 3) sc_law_lack.nd rfl (Or.inl rfl)) pgs_nil))) (pss_one (ps_set (i := 1) sc_law_lack.nd rfl (.inl rfl) (pe_op (k_plus K) (pv 1) (pe_callB (call_max2 rfl) (by rfl) T.b_max (by decide +kernel) (pa_cons pe_int (pa_cons (pe_op op_sub pe_int (pe_callB (k_len K) (by rfl) T.b_len PySem.boot_len (pa_cons (pv 3) pa_nil))) pa_nil)))))))
 (pss_one (ps_ret (pv 1))))), rd_of h fun B ls Po Pe hB hG hE => ?_⟩)
  obtain ⟨g, ⟨k, ps⟩, rfl, ⟨hg, hl⟩, q⟩ := hG
  have hpl : ps.length ≤ 100 := hl (k, ps) (by simp)
  show WS B K _ [some (.d (.list ((g ++ [(k, ps)]).map frD))), none, none, none] _
  have gl : atI ((g ++ [(k, ps)]).map frD) (-1) = some (.list [.str k, .list ps]) := by rw [List.map_append]; exact atI_last _ _
  have cd : cutD ((g ++ [(k, ps)]).map frD) none (some (-1)) = g.map frD := by rw [cut_drop, List.map_append]; exact List.dropLast_concat
  walk_at "sn"
  refine idx_list gl ?_
  walk_at "sn"
  refine ws_forL frD ?_
  walk_at "sn"
  rw [cd]
  refine ⟨g, rfl, fun pre ρ' => ∃ o2 o3 : Option L, ρ' = [some (.d (.list ((g ++ [(k, ps)]).map frD))), some (.d (.int (lk2 (k, ps) + lkS pre))), o2, o3], ⟨_, _, by rw [show lk2 (k, ps) + lkS [] = if (2 : Int) - (ps.length : Int) > 0 then 2 - (ps.length : Int) else 0 from Int.add_zero _]; rfl⟩, fun pre f post ρ2 ha hI => ?_, fun ρ2 hI => ?_⟩
  · obtain ⟨o2, o3, rfl⟩ := hI
    obtain ⟨k2, qs⟩ := f
    have hf := hl (k2, qs) (by rw [ha]; simp)
    dsimp only at hf
    show WG B K _ (.list [.str k2, .list qs]) _ _
    refine wg_lst rfl ?_
    walk_at "sn"
    exact ⟨some (.d (.str k2)), some (.d (.list qs)), by rw [lkS_snoc, ← Int.add_assoc]; rfl⟩
  · obtain ⟨o2, o3, rfl⟩ := hI
    walk_at "sn"
    exact q

/-! ### places in the pile -/
def pilO (p : Addr) (os : List OT) (q r : Addr) (l : Fr2) : OT := .lst p (os ++ [frO q r l])
theorem snoc_get {α : Type} (xs : List α) (x : α) : (xs ++ [x])[xs.length]? = some x := by
  rw [List.getElem?_append_right (Nat.le_refl _), Nat.sub_self]
  rfl
theorem pil_at (p : Addr) (os : List OT) (q r : Addr) (l : Fr2) : (pilO p os q r l).at [os.length, 1] = some (.lst r (l.2.map .d)) := by
  show (match (os ++ [frO q r l])[os.length]? with | some u => OT.at [1] u | none => none) = _
  rw [snoc_get]
  rfl
theorem pil_at0 (p : Addr) (os : List OT) (q r : Addr) (l : Fr2) : (pilO p os q r l).at [os.length] = some (frO q r l) := by
  show (match (os ++ [frO q r l])[os.length]? with | some u => OT.at [] u | none => none) = _
  rw [snoc_get]
  rfl
theorem pil_put (p : Addr) (os : List OT) (q r : Addr) (l : Fr2) (ts : List PyData) : (pilO p os q r l).put [os.length, 1] (.lst r (l.2.map OT.d ++ ts.map OT.d)) = pilO p os q r (l.1, l.2 ++ ts) := by
  show (match (os ++ [frO q r l])[os.length]? with | some u => OT.lst p ((os ++ [frO q r l]).set os.length (OT.put [1] u (.lst r (l.2.map OT.d ++ ts.map OT.d)))) | none => _) = _
  rw [snoc_get]
  show OT.lst p ((os ++ [frO q r l]).set os.length _) = OT.lst p (os ++ [frO q r (l.1, l.2 ++ ts)])
  congr 1
  rw [List.set_append_right _ _ (Nat.le_refl _), Nat.sub_self]
  show os ++ [_] = _
  congr 2
  show OT.lst q ([OT.d (.str l.1), OT.lst r (l.2.map .d)].set 1 (.lst r (l.2.map .d ++ ts.map .d))) = OT.lst q [.d (.str l.1), .lst r ((l.2 ++ ts).map .d)]
  rw [List.map_append]
  rfl
abbrev negOne : TE := tUn (rU fun i => V.int (-i)) (tC (V.int 1))
theorem we_pil0 {B : Bs} {K : Fr} {ρ : En} {Q : R → En → Prop} {j : Nat} {p : Addr} {os : List OT} {q r : Addr} {l : Fr2} (hj : ρ[j]? = some (some (.deep (pilO p os q r l)))) (h : Q (.raw (.ref q)) ρ) : WE B K (tOp (rIx K) (tVar j) negOne) ρ Q := by
  refine we_ixP (we_ptr hj ?_)
  refine ⟨p, rfl, ?_⟩
  walk_at "sn"
  exact ⟨j, _, [], _, -1, frO q r l, rfl, hj, .inl rfl, atI_last _ _, h⟩
theorem we_pil1 {B : Bs} {K : Fr} {ρ : En} {Q : R → En → Prop} {j : Nat} {p : Addr} {os : List OT} {q r : Addr} {l : Fr2} (hj : ρ[j]? = some (some (.deep (pilO p os q r l)))) (h : Q (.raw (.ref r)) ρ) : WE B K (tOp (rIx K) (tOp (rIx K) (tVar j) negOne) (tC (.int 1))) ρ Q := by
  refine we_ixP (we_pil0 hj ⟨q, rfl, ?_⟩)
  walk_at "sn"
  exact ⟨j, _, [os.length], _, 1, .lst r (l.2.map .d), rfl, hj, .inl (pil_at0 p os q r l), rfl, h⟩
theorem wd_pilK {B : Bs} {K : Fr} {ρ : En} {Q : PyData → En → Prop} {j : Nat} {p : Addr} {os : List OT} {q r : Addr} {l : Fr2} (hj : ρ[j]? = some (some (.deep (pilO p os q r l)))) (h : Q (.str l.1) ρ) : WD B K (tOp (rIx K) (tOp (rIx K) (tVar j) negOne) (tC (.int 0))) ρ Q := by
  refine wd_e (we_ixP (we_pil0 hj ⟨q, rfl, ?_⟩))
  walk_at "sn"
  exact ⟨j, _, [os.length], _, 0, .d (.str l.1), rfl, hj, .inl (pil_at0 p os q r l), rfl, _, rfl, h⟩
theorem wd_pilN {B : Bs} {K : Fr} {ρ : En} {Q : PyData → En → Prop} {j : Nat} {p : Addr} {os : List OT} {q r : Addr} {l : Fr2} (hj : ρ[j]? = some (some (.deep (pilO p os q r l)))) (h : Q (.int l.2.length) ρ) : WD B K (tCB (rLen K) (tCons (tOp (rIx K) (tOp (rIx K) (tVar j) negOne) (tC (.int 1))) tNil)) ρ Q := by
  refine wd_lenP (we_pil1 hj ⟨r, rfl, j, _, _, _, hj, pil_at p os q r l, ?_⟩)
  rw [List.length_map]
  exact h
theorem Pile.lens {top : Str} {g : List Fr2} {l : Fr2} {n : Nat} (h : Pile top g l n) : ∀ f, f ∈ g ++ [l] → f.2.length ≤ n := by
  induction h with
  | one h =>
    intro f hf
    rw [List.nil_append] at hf
    rw [List.mem_singleton.mp hf]
    exact shNs_len h
  | push _ h2 ih =>
    intro f hf
    rcases List.mem_append.mp hf with hf | hf
    · exact Nat.le_trans (ih f hf) (Nat.le_add_right _ _)
    · rw [List.mem_singleton.mp hf]
      exact Nat.le_trans (shNs_len h2) (Nat.le_add_left _ _)
theorem pil_isD {p : Addr} {os : List OT} {q r : Addr} {l : Fr2} {g : List Fr2} (h : FrOs os g) : (pilO p os q r l).isD = true ∧ (pilO p os q r l).data = .list ((g ++ [l]).map frD) := by
  have h2 := (FrOs.snoc (q := q) (r := r) (f := l) h).data
  exact ⟨h2.2, congrArg PyData.list h2.1⟩
theorem rep_flat (x : PyData) : ∀ n : Nat, (List.replicate n [x]).flatten = List.replicate n x
  | 0 => rfl
  | n + 1 => by rw [List.replicate_succ, List.flatten_cons, rep_flat x n]; rfl
section
set_option hygiene false
local macro_rules | `(tactic| walk_at "sn1") => `(tactic| first | (with_reducible refine SV.wd_e (SV.we_repZ ?_)) | ((with_reducible refine' SV.wd_pilN ?h ?_); (case h => exact rfl)) | ((with_reducible refine' SV.wd_pilK ?h ?_); (case h => exact rfl)))
set_option hygiene true
def G_law_shape : GF := fun ls Po _ => ∃ (cs : List Int) (k : Str) (most : Int), ls = [.d (.list (cs.map .int)), .d (.str k), .d (.int most)] ∧ ((k = barS ∨ k = dashS) ∧ cs.length ≤ 63 ∧ most ≤ 24) ∧ ∀ x n, shN Str.empty x = some n → n ≤ 24 → Po (.d x) []
theorem ok_law_shape (T : Txt K mg) : FnOk P w K mg base CX0 2 T.f_law_shape T.fd_law_shape ["cells", "kind", "most"] (SpG K none G_law_shape) := by
  refine T.d_law_shape.F.ok sc_law_shape (SpG.len (n := 3) fun ls Po Pe h => by obtain ⟨_, _, _, rfl, _⟩ := h; rfl) (fun cdv A outer s H vs Q E hr h => ⟨_, (pss_cons (ps_if (PW.pt (pw_or (pt_cmpR op_lt (pv 2) pe_int (nomark _)) (pw_or1 (pt_cmpR (k_eqD K rfl hr.units) (pv 0) (pe_lst pa_nil) (nomark _))))) (pss_one (ps_ret pe_non)) pss_nil)
 (pss_cons (ps_setO (i := 3) sc_law_shape.nd rfl (.inl rfl) (pe_lstX (pe_lst (pa_cons (pe_lstX (pe_lst (pa_cons (pv 1) (pa_cons (pe_lst pa_nil) pa_nil)))) pa_nil))))
 (pss_cons (ps_set (i := 4) sc_law_shape.nd rfl (.inl rfl) pe_int)
 (pss_cons (ps_for PassesOwn.never rfl (k_piL K rfl (pv 0)) (pg_name (i := 5) sc_law_shape.nd rfl (Or.inl rfl)) (pss_cons (ps_set (i := 6) sc_law_shape.nd rfl (.inl rfl) (pe_op op_sub (pe_op op_sub (pv 2) (pv 4)) (pe_ro (pe_call (ok_law_lack T) hr (by rfl) T.d_law_lack.g T.d_law_lack.kp T.d_law_lack.b .nil pass0 (pa_cons (pv 3) pa_nil)))))
 (pss_one (ps_if (PW.pt (pw_and (pt_cmpR (k_eqD K rfl hr.units) (pe_op op_modN (pv 5) pe_int) pe_int (nomark _)) (pw_and1 (PW.pt (pw_or (pt_cmpR op_gt (pv 6) pe_int (nomark _)) (pw_or1 (PW.pt (pw_and (pt_cmpR (k_eqD K rfl hr.units) (pv 6) pe_int (nomark _)) (pw_and1 (pt_cmpR op_lt (pe_callB (k_len K) (by rfl) T.b_len PySem.boot_len (pa_cons (pe_ix (k_ix K) (pe_ix (k_ix K) (pv 3) (pe_un un_neg pe_int) (fun _ _ => rfl)) pe_int (fun _ _ => rfl)) pa_nil)) pe_int (nomark _))))))))))) (pss_one (ps_expr (k_bm K rfl PySem.F.plainAttrs_list PySem.F.slot_list_append PySem.F.type_list_append mt_append (pv 3) (pa_cons (pe_lstX (pe_lst (pa_cons (pe_ix (k_ix K) pe_str (pe_callTy call_int1 (by rfl) T.b_int (by decide +kernel) (pa_cons (pe_cmpR (k_eqD K rfl hr.units) (pe_ix (k_ix K) (pe_ix (k_ix K) (pv 3) (pe_un un_neg pe_int) (fun _ _ => rfl)) pe_int (fun _ _ => rfl)) pe_str (nomark _)) pa_nil)) (fun _ _ => rfl)) (pa_cons (pe_lst pa_nil) pa_nil)))) pa_nil)))) (pss_one (ps_if (PW.pt (pw_and (pt_cmpR (k_eqD K rfl hr.units) (pe_op op_modN (pv 5) pe_int) pe_int (nomark _)) (pw_and (pt_cmpR op_gt (pe_callB (k_len K) (by rfl) T.b_len PySem.boot_len (pa_cons (pv 3) pa_nil)) pe_int (nomark _)) (pw_and1 (pt_cmpR op_gt (pe_callB (k_len K) (by rfl) T.b_len PySem.boot_len (pa_cons (pe_ix (k_ix K) (pe_ix (k_ix K) (pv 3) (pe_un un_neg pe_int) (fun _ _ => rfl)) pe_int (fun _ _ => rfl)) pa_nil)) pe_int (nomark _)))))) (pss_cons (ps_set (i := 7) sc_law_shape.nd rfl (.inl rfl) (k_bm0 K rfl PySem.F.plainAttrs_list PySem.F.slot_list_pop PySem.F.type_list_pop mt_pop (pv 3)))
 (pss_one (ps_expr (k_bm K rfl PySem.F.plainAttrs_list PySem.F.slot_list_append PySem.F.type_list_append mt_append (pe_ix (k_ix K) (pe_ix (k_ix K) (pv 3) (pe_un un_neg pe_int) (fun _ _ => rfl)) pe_int (fun _ _ => rfl)) (pa_cons (pe_tup (pa_cons (pe_ix (k_ix K) (pv 7) pe_int (fun _ _ => rfl)) (pa_cons (pe_callTy (k_tupOf K) (by rfl) T.b_tuple (by decide +kernel) (pa_cons (pe_ix (k_ix K) (pv 7) pe_int (fun _ _ => rfl)) pa_nil)) pa_nil))) pa_nil))))) (pss_one (ps_if (PW.pt (pw_or (pt_cmpR op_gt (pv 6) pe_int (nomark _)) (pw_or1 (pt_cmpR op_lt (pe_callB (k_len K) (by rfl) T.b_len PySem.boot_len (pa_cons (pe_ix (k_ix K) (pe_ix (k_ix K) (pv 3) (pe_un un_neg pe_int) (fun _ _ => rfl)) pe_int (fun _ _ => rfl)) pa_nil)) pe_int (nomark _))))) (pss_cons (ps_expr (k_bm K rfl PySem.F.plainAttrs_list PySem.F.slot_list_append PySem.F.type_list_append mt_append (pe_ix (k_ix K) (pe_ix (k_ix K) (pv 3) (pe_un un_neg pe_int) (fun _ _ => rfl)) pe_int (fun _ _ => rfl)) (pa_cons pe_non pa_nil)))
 (pss_one (ps_set (i := 4) sc_law_shape.nd rfl (.inl rfl) (pe_op (k_plus K) (pv 4) pe_int)))) pss_nil))))))))
 (pss_cons (ps_while PassesOwn.never (pt_cmpR op_gt (pe_callB (k_len K) (by rfl) T.b_len PySem.boot_len (pa_cons (pv 3) pa_nil)) pe_int (nomark _)) (pss_cons (ps_set (i := 7) sc_law_shape.nd rfl (.inl rfl) (k_bm0 K rfl PySem.F.plainAttrs_list PySem.F.slot_list_pop PySem.F.type_list_pop mt_pop (pv 3)))
 (pss_one (ps_expr (k_bm K rfl PySem.F.plainAttrs_list PySem.F.slot_list_append PySem.F.type_list_append mt_append (pe_ix (k_ix K) (pe_ix (k_ix K) (pv 3) (pe_un un_neg pe_int) (fun _ _ => rfl)) pe_int (fun _ _ => rfl)) (pa_cons (pe_tup (pa_cons (pe_ix (k_ix K) (pv 7) pe_int (fun _ _ => rfl)) (pa_cons (pe_callTy (k_tupOf K) (by rfl) T.b_tuple (by decide +kernel) (pa_cons (pe_op (k_plus K) (pe_ix (k_ix K) (pv 7) pe_int (fun _ _ => rfl)) (pe_op op_rep (pe_lst (pa_cons pe_non pa_nil)) (pe_op op_sub pe_int (pe_callB (k_len K) (by rfl) T.b_len PySem.boot_len (pa_cons (pe_ix (k_ix K) (pv 7) pe_int (fun _ _ => rfl)) pa_nil))))) pa_nil)) pa_nil))) pa_nil))))))
 (pss_one (ps_ret (pe_tup (pa_cons (pv 1) (pa_cons (pe_callTy (k_tupOf K) (by rfl) T.b_tuple (by decide +kernel) (pa_cons (pe_op (k_plus K) (pe_ix (k_ix K) (pe_ix (k_ix K) (pv 3) pe_int (fun _ _ => rfl)) pe_int (fun _ _ => rfl)) (pe_op op_rep (pe_lst (pa_cons pe_non pa_nil)) (pe_op op_sub pe_int (pe_callB (k_len K) (by rfl) T.b_len PySem.boot_len (pa_cons (pe_ix (k_ix K) (pe_ix (k_ix K) (pv 3) pe_int (fun _ _ => rfl)) pe_int (fun _ _ => rfl)) pa_nil))))) pa_nil)) pa_nil)))))))))), rd_of h fun B ls Po Pe hB hG hE => ?_⟩)
  obtain ⟨cs, k, most, rfl, ⟨hk, hcs, hm⟩, q⟩ := hG
  show WS B K _ [some (.d (.list (cs.map .int))), some (.d (.str k)), some (.d (.int most)), none, none, none, none, none] _
  refine ws_seq ?_
  refine ws_ifC True (2 ≤ most) ?_ (fun _ => ?_) fun hm2 => ?_
  · walk_at "sv"
    all_goals exact ⟨rfl, (fun _ => trivial), fun h => by first | omega | cases h⟩
  · walk_at "sn"
    exact q _ 1 (shN_none _) (by decide)
  refine ws_next ?_
  refine ws_seq (ws_asgO (np_of hB (by decide)) (we_lstX ?_))
  refine wx_o hB (we_lstX ?_)
  refine wx_var rfl ?_
  refine wx_o hB ?_
  walk_at "sn"
  intro r0 B1 hB1
  refine wx_nil ⟨by show 2 ≤ 1000000; decide, fun q0 => ?_⟩
  intro B2 hB2
  refine wx_nil ⟨by show 1 ≤ 1000000; decide, fun p0 => ?_⟩
  refine ⟨_, rfl, ?_⟩
  show WS B K _ [some (.d (.list (cs.map .int))), some (.d (.str k)), some (.d (.int most)), some (.deep (pilO p0 [] q0 r0 (k, []))), none, none, none, none] _
  walk_at "sn"
  refine ws_forL PyData.int ?_
  walk_at "sn"
  refine ⟨fun pre ρ' => ∃ (g : List Fr2) (l : Fr2) (n : Nat) (os : List OT) (p qa ra : Addr) (o5 o6 o7 : Option L), (Pile k g l n ∧ (n : Int) + lk2 l + lkS g ≤ most ∧ g.length ≤ pre.length ∧ FrOs os g) ∧ ρ' = [some (.d (.list (cs.map .int))), some (.d (.str k)), some (.d (.int most)), some (.deep (pilO p os qa ra l)), some (.d (.int n)), o5, o6, o7], ⟨[], (k, []), 0, [], p0, q0, r0, none, none, none, ⟨.one (shNs_nil _), ?_, Nat.le_refl _, .nil⟩, rfl⟩, fun pre c post ρ2 ha hI => ?_, fun ρ2 hI => ?_⟩
  · have e1 : lk2 (k, []) = 2 := rfl
    have e2 : lkS [] = 0 := rfl
    rw [e1, e2]
    omega
  · obtain ⟨g, l, n, os, p, qa, ra, o5, o6, o7, ⟨hP, hlk, hgl, hFr⟩, rfl⟩ := hI
    have hpl : pre.length < 63 := by
      have := congrArg List.length ha
      rw [List.length_append, List.length_cons] at this
      omega
    obtain ⟨hD1, hD2⟩ := pil_isD (p := p) (q := qa) (r := ra) (l := l) hFr
    have hlens := hP.lens
    have n1 := lk2_nn l
    have n2 := lkS_nn g
    refine wg_name (np_of hB (by decide)) ?_
    refine ws_opq fun Z' hnx _ _ _ => ?_
    show WS B K _ [some (.d (.list (cs.map .int))), some (.d (.str k)), some (.d (.int most)), some (.deep (pilO p os qa ra l)), some (.d (.int n)), some (.d (.int c)), o6, o7] _
    walk_at "sn"
    refine ⟨[.d (.list ((g ++ [l]).map frD))], fun _ => False, ?_, ⟨g, l, rfl, ⟨by omega, fun f hf => by have := hlens f hf; omega⟩, rfl, _, rfl, ?_⟩, fun C h => h.elim⟩
    · show (if (pilO p os qa ra l).isD = true then _ else none) = _
      rw [if_pos hD1, hD2]
      rfl
    walk_at "sn"
    obtain ⟨rm, hrm⟩ : ∃ rm, rm = most - (n : Int) - (lk2 l + lkS g) := ⟨_, rfl⟩
    rw [← hrm]
    show WS B K _ [some (.d (.list (cs.map .int))), some (.d (.str k)), some (.d (.int most)), some (.deep (pilO p os qa ra l)), some (.d (.int n)), some (.d (.int c)), some (.d (.int rm)), o7] _
    have hkl := hP.kind hk
    have okb : OkD 60 (.str (Str.ofString "|")) := .str (strOk_kind (.inl rfl))
    have okl : OkD 60 (.str l.1) := .str (strOk_kind hkl)
    have hpl1 : (pre ++ [c]).length = pre.length + 1 := by simp
    refine ws_ifC (1 < rm ∨ (rm = 1 ∧ l.2.length < 2)) True ?_ (fun hc => ?_) fun _ => ?_
    · walk_at "sv"
      · exact ⟨rfl, (fun _ => .inl (by assumption)), fun _ => trivial⟩
      · exact ⟨rfl, (fun h => .inr ⟨by assumption, by have h := of_decide_eq_true h; omega⟩), fun _ => trivial⟩
      · exact ⟨rfl, (fun h => nomatch h), fun _ => trivial⟩
      · exact ⟨rfl, (fun h => nomatch h), fun _ => trivial⟩
    · refine ws_drop (we_appendV (j := 3) rfl (np_of hB (by decide)) (wk_e (we_lstX ?_)))
      refine wx_d ?_
      walk_at "sn"
      have hkx : atI (Str.ofString "|-").cps.toList (if PyData.eqv (.str l.1) (.str (Str.ofString "|")) = true then 1 else 0) = some (if l.1 = barS then 45 else 124) := by
        rcases hkl with e | e <;> rw [e]
        · rw [show PyData.eqv (.str barS) (.str (Str.ofString "|")) = true from (eqv_iff rfl rfl).mpr rfl]
          decide +kernel
        · rw [show PyData.eqv (.str dashS) (.str (Str.ofString "|")) = false from Bool.eq_false_iff.mpr fun h => dash_ne (PyData.str.inj ((eqv_iff rfl rfl).mp h))]
          decide +kernel
      refine idx_str (by decide +kernel) hkx ?_
      rw [show (⟨#[if l.1 = barS then 45 else 124]⟩ : Str) = othS l.1 by unfold othS; split <;> decide +kernel]
      refine wx_o hB ?_
      walk_at "sn"
      intro r1 B1 hB1
      refine wx_nil ⟨by show 2 ≤ 1000000; decide, fun q1 => ?_⟩
      refine ⟨_, rfl, by rw [List.length_append, hFr.len]; show g.length + 1 < 1000000; omega, ?_⟩
      refine hnx _ ⟨g ++ [l], (othS l.1, []), n + 0, os ++ [frO qa ra l], p, q1, r1, _, _, _, ⟨.push hP (shNs_nil _), ?_, by rw [List.length_append, List.length_singleton, hpl1]; omega, .snoc hFr⟩, rfl⟩
      have e1 : lk2 (othS l.1, []) = 2 := rfl
      rw [lkS_snoc, e1]
      unfold lk1
      unfold lk2 at hrm n1
      clear hnx
      split at hrm <;> split <;> omega
    refine ws_ifC (g ≠ [] ∧ 1 < l.2.length) True ?_ (fun hc => ?_) fun _ => ?_
    · have hfl := hFr.len
      walk_at "sv"
      · refine ⟨rfl, (fun h => ⟨fun z => ?_, by have h := of_decide_eq_true h; omega⟩), fun _ => trivial⟩
        have h1 : ((os ++ [frO qa ra l]).length : Int) > 1 := by assumption
        rw [z, List.length_nil] at hfl
        rw [List.length_append, List.length_singleton, hfl] at h1
        exact absurd h1 (by decide)
      · exact ⟨rfl, (fun h => nomatch h), fun _ => trivial⟩
      · exact ⟨rfl, (fun h => nomatch h), fun _ => trivial⟩
    · obtain ⟨hg0, hl1⟩ := hc
      rcases snoc_cases g with rfl | ⟨g', m, rfl⟩
      · exact absurd rfl hg0
      obtain ⟨os', q', r', rfl, hFr'⟩ := hFr.inv
      refine ws_seq (ws_asg (np_of hB (by decide)) (we_popP (we_ptr rfl ⟨p, rfl, 3, _, [], (os' ++ [frO q' r' m]) ++ [frO qa ra l], frO qa ra l, np_of hB (by decide), rfl, rfl, by rw [List.length_append, List.length_singleton, Nat.add_sub_cancel]; exact snoc_get _ _, ?_⟩)))
      refine ⟨.d (frD l), toL_of (by rw [← frO_data qa ra l]; exact toD_deep (frO_isD qa ra l)), ?_⟩
      rw [List.dropLast_concat]
      show WS B K _ [some (.d (.list (cs.map .int))), some (.d (.str k)), some (.d (.int most)), some (.deep (pilO p os' q' r' m)), some (.d (.int n)), some (.d (.int c)), some (.d (.int rm)), some (.d (.list [.str l.1, .list l.2]))] _
      refine ws_drop (we_appendP (we_pil1 rfl ⟨r', rfl, ⟨3, _, _, _, rfl, pil_at p os' q' r' m⟩, ?_⟩))
      walk_at "sn"
      refine ⟨3, _, _, _, np_of hB (by decide), rfl, pil_at p os' q' r' m, by rw [List.length_map]; have := hlens m (by simp); show m.2.length < 1000000; omega, ?_⟩
      have hput := pil_put p os' q' r' m [.tuple [.str l.1, .tuple l.2]]
      have hcl := hP.close hk (j := 0) (by omega)
      rw [List.replicate_zero, List.append_nil] at hcl
      refine hnx _ ⟨g', _, n + 0, os', p, q', r', _, _, _, ⟨hcl, ?_, by rw [List.length_append, List.length_singleton] at hgl; omega, hFr'⟩, by rw [← hput]; rfl⟩
      clear hnx
      rw [lkS_snoc] at hlk
      unfold lk2 at hlk ⊢
      unfold lk1 at hlk
      rw [List.length_append, List.length_singleton]
      split at hlk <;> split at hlk <;> split <;> omega
    refine ws_ifC (0 < rm ∨ l.2.length < 2) True ?_ (fun hc => ?_) fun _ => ?_
    · walk_at "sv"
      · exact ⟨rfl, (fun _ => .inl (by assumption)), fun _ => trivial⟩
      · exact ⟨rfl, (fun h => .inr (by have h := of_decide_eq_true h; omega)), fun _ => trivial⟩
    · refine ws_seq (ws_drop (we_appendP (we_pil1 rfl ⟨ra, rfl, ⟨3, _, _, _, rfl, pil_at p os qa ra l⟩, ?_⟩)))
      walk_at "sn"
      refine ⟨3, _, _, _, np_of hB (by decide), rfl, pil_at p os qa ra l, by rw [List.length_map]; have := hlens l (by simp); show l.2.length < 1000000; omega, ?_⟩
      have hput := pil_put p os qa ra l [.none]
      have hcl := hP.put (shNs_one (shN_none l.1))
      show WS B K _ ([some (.d (.list (cs.map .int))), some (.d (.str k)), some (.d (.int most)), some (.deep (pilO p os qa ra l)), some (.d (.int n)), some (.d (.int c)), some (.d (.int rm)), o7].set 3 (some (.deep ((pilO p os qa ra l).put [os.length, 1] (.lst ra (l.2.map OT.d ++ [PyData.none].map OT.d)))))) _
      rw [hput]
      walk_at "sn"
      refine hnx _ ⟨g, _, n + 1, os, p, qa, ra, _, _, _, ⟨hcl, ?_, by omega, hFr⟩, rfl⟩
      clear hnx
      unfold lk2 at hlk hrm n1 ⊢
      rw [List.length_append, List.length_singleton]
      split at hlk <;> split <;> omega
    refine ws_next ?_
    exact hnx _ ⟨g, l, n, os, p, qa, ra, _, _, _, ⟨hP, hlk, by omega, hFr⟩, rfl⟩
  · obtain ⟨g, l, n, os, p, qa, ra, o5, o6, o7, ⟨hP, hlk, hgl, hFr⟩, rfl⟩ := hI
    have hpl63 : g.length ≤ 63 := by omega
    clear hgl
    walk_at "sn"
    refine ws_opq fun Z2 hnx2 _ _ _ => ?_
    refine ws_while (fun mm ρ' => ∃ (g : List Fr2) (l : Fr2) (n : Nat) (os : List OT) (p qa ra : Addr) (o7 : Option L), (Pile k g l n ∧ (n : Int) + lk2 l + lkS g ≤ most ∧ g.length = mm ∧ mm ≤ 63 ∧ FrOs os g) ∧ ∃ n0 : Nat, ρ' = [some (.d (.list (cs.map .int))), some (.d (.str k)), some (.d (.int most)), some (.deep (pilO p os qa ra l)), some (.d (.int n0)), o5, o6, o7]) ⟨g.length, g, l, n, os, p, qa, ra, o7, ⟨hP, hlk, rfl, hpl63, hFr⟩, n, rfl⟩ fun mm ρ1 hW => ?_
    clear hP hlk hFr hpl63
    obtain ⟨g, l, n, os, p, qa, ra, o7, ⟨hP, hlk, rfl, hg63, hFr⟩, n0, rfl⟩ := hW
    have hlens := hP.lens
    have n1 := lk2_nn l
    have n2 := lkS_nn g
    have hol := hFr.len
    walk_at "sv"
    · have h1 : ((os ++ [frO qa ra l]).length : Int) > 1 := by assumption
      rcases snoc_cases g with rfl | ⟨g', m, rfl⟩
      · rw [List.length_nil] at hol
        rw [List.length_append, List.length_singleton, hol] at h1
        exact absurd h1 (by decide)
      obtain ⟨os', q', r', rfl, hFr'⟩ := hFr.inv
      have hml := hlens m (by simp)
      have hll := hlens l (by simp)
      refine wd_e (we_popP (we_ptr rfl ⟨p, rfl, 3, _, [], (os' ++ [frO q' r' m]) ++ [frO qa ra l], frO qa ra l, np_of hB (by decide), rfl, rfl, by rw [List.length_append, List.length_singleton, Nat.add_sub_cancel]; exact snoc_get _ _, ?_⟩))
      refine ⟨frD l, by rw [← frO_data qa ra l]; exact toD_deep (frO_isD qa ra l), _, rfl, ?_⟩
      rw [List.dropLast_concat]
      show WS B K _ [some (.d (.list (cs.map .int))), some (.d (.str k)), some (.d (.int most)), some (.deep (pilO p os' q' r' m)), some (.d (.int n0)), o5, o6, some (.d (.list [.str l.1, .list l.2]))] _
      refine ws_drop (we_appendP (we_pil1 rfl ⟨r', rfl, ⟨3, _, _, _, rfl, pil_at p os' q' r' m⟩, ?_⟩))
      walk_at "sn"
      · rw [rep_flat, List.length_replicate]
        show _ ≤ 1000000
        omega
      rw [rep_flat]
      refine ⟨3, _, _, _, np_of hB (by decide), rfl, pil_at p os' q' r' m, by rw [List.length_map]; show m.2.length < 1000000; omega, ?_⟩
      have hput := pil_put p os' q' r' m [.tuple [.str l.1, .tuple (l.2 ++ List.replicate (2 - (l.2.length : Int)).toNat .none)]]
      have hcl := hP.close hk (j := (2 - (l.2.length : Int)).toNat) (by omega)
      refine ⟨g'.length, by rw [List.length_append, List.length_singleton]; omega, g', _, _, os', p, q', r', _, ⟨hcl, ?_, rfl, by rw [List.length_append, List.length_singleton] at hg63; omega, hFr'⟩, n0, by rw [← hput]; rfl⟩
      rw [lkS_snoc] at hlk
      unfold lk2 at hlk ⊢
      unfold lk1 at hlk
      rw [List.length_append, List.length_singleton]
      split at hlk <;> split at hlk <;> split <;> omega
    · have h1 : ¬ ((os ++ [frO qa ra l]).length : Int) > 1 := by assumption
      refine hnx2 _ ?_
      clear hnx2
      rcases snoc_cases g with rfl | ⟨g', m, rfl⟩
      · have ho : os = [] := List.eq_nil_of_length_eq_zero hol
        subst ho
        have hdn := hP.done hk (j := (2 - (l.2.length : Int)).toNat) (by omega)
        show WS B K _ [some (.d (.list (cs.map .int))), some (.d (.str k)), some (.d (.int most)), some (.deep (pilO p [] qa ra l)), some (.d (.int n0)), o5, o6, o7] _
        refine ws_toD (j := 3) rfl (np_of hB (by decide)) (pil_isD .nil).1 ?_
        rw [(pil_isD (p := p) (q := qa) (r := ra) (l := l) .nil).2]
        show WS B K _ [some (.d (.list (cs.map .int))), some (.d (.str k)), some (.d (.int most)), some (.d (.list [.list [.str l.1, .list l.2]])), some (.d (.int n0)), o5, o6, o7] _
        have hll := hlens l (by simp)
        have hlk2 : (n : Int) + ((2 - (l.2.length : Int)).toNat : Int) ≤ most := by
          have e2 : lkS [] = 0 := rfl
          unfold lk2 at hlk
          rw [e2] at hlk
          split at hlk <;> omega
        walk_at "sn"
        · rw [rep_flat, List.length_replicate]
          show _ ≤ 1000000
          omega
        rw [rep_flat]
        obtain ⟨e3, e4⟩ := hdn
        exact q _ _ e4 (by omega)
      · rw [List.length_append, List.length_singleton] at hol
        rw [List.length_append, List.length_singleton, hol] at h1
        exact absurd (by omega) h1
end

/-! ### _law_count, _law_numbered -/
mutual
def cN : PyData → Option Nat
  | .tuple [.str _, .tuple ps] => if 2 ≤ ps.length then cNs ps else none
  | .none => some 1
  | .int _ => some 1
  | _ => none
def cNs : List PyData → Option Nat
  | [] => some 0
  | p :: ps => (cN p).bind fun a => (cNs ps).map fun b => a + b
end
theorem cN_knot (k : Str) (ps : List PyData) : cN (.tuple [.str k, .tuple ps]) = if 2 ≤ ps.length then cNs ps else none := by rw [cN]
theorem cN_cases {x : PyData} {n : Nat} (h : cN x = some n) : ((x = .none ∨ ∃ i, x = .int i) ∧ n = 1) ∨ ∃ k ps, x = .tuple [.str k, .tuple ps] ∧ 2 ≤ ps.length ∧ cNs ps = some n := by
  unfold cN at h
  split at h
  · rename_i k ps
    by_cases c : 2 ≤ ps.length
    · rw [if_pos c] at h
      exact .inr ⟨k, ps, rfl, c, h⟩
    · rw [if_neg c] at h
      cases h
  · cases h
    exact .inl ⟨.inl rfl, rfl⟩
  · cases h
    exact .inl ⟨.inr ⟨_, rfl⟩, rfl⟩
  · cases h
theorem cNs_consI {p : PyData} {ps : List PyData} {n : Nat} (h : cNs (p :: ps) = some n) : ∃ a b, cN p = some a ∧ cNs ps = some b ∧ n = a + b := by
  rw [cNs] at h
  cases e1 : cN p with
  | none => rw [e1] at h; cases h
  | some a =>
    cases e2 : cNs ps with
    | none => rw [e1, e2] at h; cases h
    | some b =>
      rw [e1, e2] at h
      exact ⟨a, b, rfl, rfl, (Option.some.inj h).symm⟩
theorem cN_pos : ∀ (d : Nat) {x : PyData} {n : Nat}, nodes x ≤ d → cN x = some n → 1 ≤ n
  | 0, x, n, hd, h => by have := nodes_pos x; omega
  | d + 1, x, n, hd, h => by
    rcases cN_cases h with ⟨_, rfl⟩ | ⟨k, ps, rfl, hg, hn⟩
    · exact Nat.le_refl _
    · rw [nodes_knot] at hd
      cases ps with
      | nil => simp at hg
      | cons p ps =>
        obtain ⟨a, b, e1, e2, rfl⟩ := cNs_consI hn
        rw [nodess_cons] at hd
        have := cN_pos d (by omega) e1
        omega
theorem cNs_len : ∀ {ps : List PyData} {n : Nat}, cNs ps = some n → ps.length ≤ n
  | [], n, h => Nat.zero_le _
  | p :: ps, n, h => by
    obtain ⟨a, b, e1, e2, rfl⟩ := cNs_consI h
    have := cNs_len e2
    have := cN_pos (nodes p) (Nat.le_refl _) e1
    rw [List.length_cons]
    omega
theorem cNs_mem : ∀ {ps : List PyData} {n : Nat}, cNs ps = some n → ∀ p, p ∈ ps → ∃ m, cN p = some m ∧ m + ps.length ≤ n + 1
  | [], n, h, p, hp => nomatch hp
  | q :: ps, n, h, p, hp => by
    obtain ⟨a, b, e1, e2, rfl⟩ := cNs_consI h
    rw [List.length_cons]
    have hl := cNs_len e2
    have h1 := cN_pos (nodes q) (Nat.le_refl _) e1
    rcases List.mem_cons.mp hp with rfl | hp
    · exact ⟨a, e1, by omega⟩
    · obtain ⟨m, e3, h3⟩ := cNs_mem e2 p hp
      exact ⟨m, e3, by omega⟩
theorem cNs_sum : ∀ {ps : List PyData} {ms : List Int} {n : Nat}, cNs ps = some n → ms.length = ps.length → (∀ (j : Nat) p m, ps[j]? = some p → ms[j]? = some m → ∃ i : Nat, cN p = some i ∧ m = (i : Int)) → ms.sum = (n : Int)
  | [], [], n, h, _, _ => by rw [cNs] at h; cases h; rfl
  | [], _ :: _, n, _, hl, _ => by cases hl
  | _ :: _, [], n, _, hl, _ => by cases hl
  | p :: ps, m :: ms, n, h, hl, hm => by
    obtain ⟨a, b, e1, e2, rfl⟩ := cNs_consI h
    obtain ⟨i, e3, e4⟩ := hm 0 p m rfl rfl
    rw [e1] at e3
    cases e3
    have ih := cNs_sum e2 (Nat.succ.inj hl) fun j p m g1 g2 => hm (j + 1) p m g1 g2
    rw [List.sum_cons, ih, e4]
    omega
theorem shN_cN : ∀ (d : Nat) {ab : Str} {x : PyData} {n : Nat}, nodes x ≤ d → shN ab x = some n → cN x = some n
  | 0, ab, x, n, hd, h => by have := nodes_pos x; omega
  | d + 1, ab, x, n, hd, h => by
    rcases shN_cases h with ⟨rfl, rfl⟩ | ⟨k, ps, rfl, hg, hn⟩
    · rw [cN]
    · rw [nodes_knot] at hd
      rw [cN_knot, if_pos (of_decide_eq_true hg).2.2]
      have key : ∀ {qs : List PyData} {m : Nat}, nodess qs ≤ d → shNs k qs = some m → cNs qs = some m := by
        intro qs
        induction qs with
        | nil => intro m _ e; rw [shNs_nil] at e; cases e; rw [cNs]
        | cons q qs ih =>
          intro m h1 e
          rw [nodess_cons] at h1
          obtain ⟨a, b, e1, e2, rfl⟩ := shNs_consI e
          rw [cNs, shN_cN d (by omega) e1, ih (by omega) e2]
          rfl
      exact key (by omega) hn
theorem numT_cN : ∀ (d : Nat) {ab : Str} {x : PyData} {ns : List Int}, nodes x ≤ d → numT ab x = some ns → cN x = some ns.length
  | 0, ab, x, n, hd, h => by have := nodes_pos x; omega
  | d + 1, ab, x, n, hd, h => by
    rcases numT_cases h with ⟨i, rfl, rfl⟩ | ⟨k, ps, rfl, hg, hn⟩
    · rw [cN]; rfl
    · rw [nodes_knot] at hd
      rw [cN_knot, if_pos (of_decide_eq_true hg).2.2]
      have key : ∀ {qs : List PyData} {ms : List Int}, nodess qs ≤ d → numTs k qs = some ms → cNs qs = some ms.length := by
        intro qs
        induction qs with
        | nil => intro m _ e; rw [numTs_nil] at e; cases e; rw [cNs]; rfl
        | cons q qs ih =>
          intro m h1 e
          rw [nodess_cons] at h1
          obtain ⟨a, b, e1, e2, rfl⟩ := numTs_consI e
          rw [cNs, numT_cN d (by omega) e2, ih (by omega) e1, List.length_append]
          show some (b.length + a.length) = _
          rw [Nat.add_comm]
      exact key (by omega) hn
def G_countR2 (d : Nat) : GF := fun ls Po _ => ∃ (x : PyData) (n : Nat), ls = [.d x] ∧ (cN x = some n ∧ n ≤ d ∧ d ≤ 1000) ∧ Po (.d (.int n)) []
theorem rec_law_count (T : Txt K mg) (d : Nat) : FnOk P w K mg base CX0 (4 + d) T.f_law_count T.fd_law_count ["shape"] (SpG K none (G_countR2 d)) := by
  induction d with
  | zero => exact fn_none fun ls Po Pe ⟨x, n, _, ⟨h, h2, _⟩, _⟩ => by have := cN_pos _ (Nat.le_refl _) h; omega
  | succ d ih =>
    refine T.d_law_count.F.ok (k := 4 + d) sc_law_count (SpG.len (n := 1) fun ls Po Pe h => by obtain ⟨_, _, rfl, _⟩ := h; rfl) (fun cdv A outer s H vs Q E hr h => ⟨_, (pss_cons (ps_if (PW.pt (pw_or (pt_cmp (pc_isN (pv 0))) (pw_or1 (pt_val (pe_callB (k_isi K) (by rfl) T.b_isinstance (by decide +kernel) (pa_cons (pv 0) (pa_cons (pe_bltn (v := .ty "int") (by rfl) T.b_int (by decide +kernel) rfl) pa_nil))))))) (pss_one (ps_ret pe_int)) pss_nil)
 (pss_one (ps_ret (pe_callB (k_sum K rfl rfl) (by rfl) T.b_sum (by decide +kernel) (pa_cons (pe_lc (own := [("part", 1)]) (g := _) (tt := _) (by rfl) sc_law_count.nd (k_piT K rfl (pe_ix (k_ix K) (pv 0) pe_int (fun _ _ => rfl))) (blkOk_by (N := N_law_count) (sc := defScope s_law_count) (by decide +kernel)) (fun _ _ _ _ _ => (pg_name (i := 1) sc_law_count.nd rfl (Or.inl rfl))) (fun _ _ _ _ _ => pts_nil) (fun _ _ _ _ _ => (pe_call ih hr (by rfl) T.d_law_count.g T.d_law_count.kp T.d_law_count.b .nil pass0 (pa_cons (pv 1) pa_nil)))) pa_nil))))), rd_of h fun B ls Po Pe hB hG hE => ?_⟩)
    obtain ⟨x, n, rfl, ⟨hx, hn, hd⟩, q⟩ := hG
    show WS B K _ [some (.d x), none] _
    rcases cN_cases hx with ⟨rfl | ⟨i, rfl⟩, rfl⟩ | ⟨k, ps, rfl, hp2, hs⟩
    · walk_at "sv"
      exact q
    · walk_at "sv"
      exact q
    · walk_at "sn"
      refine ws_ifC False True ?_ (fun z => z.elim) fun _ => ?_
      · walk_at "sv"
        exact ⟨rfl, (fun h => by cases h), fun _ => trivial⟩
      walk_at "sn"
      refine wd_sum ?_
      walk_at "sn"
      have hpl := cNs_len hs
      refine wd_e (we_lcT id (fun p o => ∃ m : Int, (∃ i : Nat, cN p = some i ∧ m = (i : Int)) ∧ o = some (.int m)) (.name 1) ?_)
      walk_at "sn"
      refine ⟨ps, by rw [List.map_id], by show ps.length ≤ 1000000; omega, fun p hp B' hB' => ?_, fun zs hz => ?_⟩
      · obtain ⟨m, e1, e2⟩ := cNs_mem hs p hp
        walk_at "sn"
        exact ⟨p, m, rfl, ⟨e1, by omega, by omega⟩, ⟨_, rfl, _, ⟨m, e1, rfl⟩, rfl⟩⟩
      obtain ⟨ms, rfl, hml, hmm⟩ := Sel.each (f := PyData.int) (G := fun p m => ∃ i : Nat, cN p = some i ∧ m = (i : Int)) hz
      refine ⟨_, rfl, ms, rfl, ?_⟩
      walk_at "sn"
      rw [cNs_sum hs hml hmm]
      exact q
theorem ok_law_count (T : Txt K mg) : FnOk P w K mg base CX0 42 T.f_law_count T.fd_law_count ["shape"] (SpG K none (G_countR2 38)) := rec_law_count T 38
def G_numR (d : Nat) : GF := fun ls Po _ => ∃ (x : PyData) (ab : Str) (n : Nat) (as rest : List Int), ls = [.d x, .own ((as ++ rest).map .int)] ∧ (shN ab x = some n ∧ n ≤ d ∧ d ≤ 1000 ∧ as.length = n ∧ as.length + rest.length ≤ 1000) ∧ ∀ y ns, numT ab y = some ns → ns.Perm as → Po (.d y) (rest.map .int)
def NumI (k : Str) (as rest : List Int) (pre ys zs : List PyData) : Prop := ys.length = pre.length ∧ ∃ (bs as' ns : List Int), shNs k pre = some bs.length ∧ numTs k ys = some ns ∧ as = bs ++ as' ∧ ns.Perm bs ∧ zs = (as' ++ rest).map .int
theorem rec_law_numbered (T : Txt K mg) (d : Nat) : FnOk P w K mg base CX0 (4 + d) T.f_law_numbered T.fd_law_numbered ["shape", "left"] (SpG K (some 1) (G_numR d)) := by
  induction d with
  | zero => exact fn_none fun ls Po Pe ⟨x, ab, n, as, rest, _, ⟨h, h2, _⟩, _⟩ => by have := shN_pos _ (Nat.le_refl _) h; omega
  | succ d ih =>
    refine T.d_law_numbered.F.ok (k := 4 + d) sc_law_numbered (SpG.len (n := 2) fun ls Po Pe h => by obtain ⟨_, _, _, _, _, rfl, _⟩ := h; rfl) (fun cdv A outer s H vs Q E hr h => ⟨_, (pss_cons (ps_if (pt_cmp (pc_isN (pv 0))) (pss_one (ps_ret (k_bm K rfl PySem.F.plainAttrs_list PySem.F.slot_list_pop PySem.F.type_list_pop mt_popAt (pv 1) (pa_cons pe_int pa_nil)))) pss_nil)
 (pss_one (ps_ret (pe_tup (pa_cons (pe_ix (k_ix K) (pv 0) pe_int (fun _ _ => rfl)) (pa_cons (pe_callTy (k_tupOf K) (by rfl) T.b_tuple (by decide +kernel) (pa_cons (pe_lc (own := [("part", 2)]) (g := _) (tt := _) (by rfl) sc_law_numbered.nd (k_piT K rfl (pe_ix (k_ix K) (pv 0) pe_int (fun _ _ => rfl))) (blkOk_by (N := N_law_numbered) (sc := defScope s_law_numbered) (by decide +kernel)) (fun _ _ _ _ _ => (pg_name (i := 2) sc_law_numbered.nd rfl (Or.inl rfl))) (fun _ _ _ _ _ => pts_nil) (fun _ _ _ _ _ => (pe_call ih hr (by rfl) T.d_law_numbered.g T.d_law_numbered.kp T.d_law_numbered.b .nil pass0 (pa_cons (pv 2) (pa_cons (pv 1) pa_nil))))) pa_nil)) pa_nil)))))), rd_of h fun B ls Po Pe hB hG hE => ?_⟩)
    obtain ⟨x, ab, n, as, rest, rfl, ⟨hx, hn, hd, hal, hrl⟩, q⟩ := hG
    show WS B K _ [some (.d x), some (.own ((as ++ rest).map .int)), none] _
    rcases shN_cases hx with ⟨rfl, rfl⟩ | ⟨k, ps, rfl, hg, hs⟩
    · obtain ⟨a, rfl⟩ : ∃ a, as = [a] := by
        match as, hal with
        | [a], _ => exact ⟨a, rfl⟩
      walk_at "sn"
      refine ws_ifC True False ?_ (fun _ => ?_) fun z => z.elim
      · walk_at "sv"
        exact ⟨rfl, (fun _ => trivial), fun h => by cases h⟩
      refine ws_ret (we_popAt (j := 1) rfl ?_)
      walk_at "sn"
      refine ⟨_, 0, 0, .int a, rfl, rfl, by decide, by decide, ?_, rfl, ?_⟩
      · unfold ixN
        rw [if_pos (by decide), if_pos (by rw [List.length_map, List.length_append, List.length_singleton]; omega)]
        rfl
      · exact q _ _ (numT_int _ _) (List.Perm.refl _)
    · have hg2 := of_decide_eq_true hg
      have hp2 := hg2.2.2
      have hpl := shNs_len hs
      walk_at "sn"
      refine ws_ifC False True ?_ (fun z => z.elim) fun _ => ?_
      · walk_at "sv"
        exact ⟨rfl, (fun h => by cases h), fun _ => trivial⟩
      walk_at "sn"
      refine wd_e (we_lcTM id 1 (NumI k as rest) (by decide) (.name 2) (fun pre ys zs h => h.1) ?_)
      walk_at "sn"
      refine ⟨ps, _, by rw [List.map_id], by show ps.length ≤ 1000000; omega, rfl, ⟨rfl, [], as, [], shNs_nil _, numTs_nil _, rfl, List.Perm.refl _, rfl⟩, fun pre p post zs ys hsp hI B' hB' => ?_, fun ys zs hI => ?_⟩
      · obtain ⟨hyl, bs, as', ns, h1, h2, rfl, h4, rfl⟩ := hI
        rw [hsp] at hs
        obtain ⟨m, e1, e2⟩ := shNs_mem hs p (by simp)
        rw [← hsp] at e2
        have hsm : ∃ m2, shNs k post = some m2 := by
          obtain ⟨a, ha⟩ : ∃ a, shNs k (p :: post) = some a := by
            have : ∀ {as bs : List PyData} {n : Nat}, shNs k (as ++ bs) = some n → ∃ a, shNs k bs = some a := by
              intro as
              induction as with
              | nil => intro bs n h; exact ⟨n, h⟩
              | cons a as iha => intro bs n h; obtain ⟨_, _, _, g, _⟩ := shNs_consI h; exact iha g
            exact this hs
          obtain ⟨_, b, _, g, _⟩ := shNs_consI ha
          exact ⟨b, g⟩
        obtain ⟨m2, hm2⟩ := hsm
        have htot := shNs_app h1 (show shNs k (p :: post) = some (m + m2) by rw [shNs_cons, e1, hm2]; rfl)
        rw [htot] at hs
        have htot2 := Option.some.inj hs
        rw [List.length_append] at hal
        have hcl : m ≤ as'.length := by omega
        obtain ⟨cs, as2, rfl, hcs⟩ : ∃ cs as2, as' = cs ++ as2 ∧ cs.length = m := ⟨as'.take m, as'.drop m, (List.take_append_drop m as').symm, by rw [List.length_take]; omega⟩
        refine wg_name (np_of hB' (by decide)) ?_
        refine wd_e (we_callP ?_)
        walk_at "sn"
        refine ⟨p, k, m, cs, as2 ++ rest, by rw [List.append_assoc]; rfl, ⟨e1, by omega, by omega, hcs, by simp only [List.length_append] at hal hrl ⊢; omega⟩, fun y ns' g1 g2 => ⟨_, rfl, _, rfl, by rw [List.length_append, List.length_append, hyl]; rfl, bs ++ cs, as2, ns' ++ ns, ?_, ?_, by rw [List.append_assoc], ?_, rfl⟩⟩
        · rw [List.length_append, hcs]
          exact shNs_app h1 (shNs_one e1)
        · have g3 : numTs k [y] = some ns' := by rw [numTs_cons, numTs_nil, g1]; rfl
          rw [numTs_app, g3, h2]
          rfl
        · exact (g2.append h4).trans List.perm_append_comm
      · obtain ⟨hyl, bs, as', ns, h1, h2, h3, h4, rfl⟩ := hI
        rw [hs] at h1
        have hbl := Option.some.inj h1
        have ha' : as' = [] := by
          have := congrArg List.length h3
          rw [List.length_append] at this
          exact List.eq_nil_of_length_eq_zero (by omega)
        subst ha'
        rw [List.append_nil] at h3
        subst h3
        refine ⟨_, rfl, ys, rfl, ?_⟩
        walk_at "sn"
        refine q _ ns ?_ h4
        rw [numT_knot, if_pos]
        · exact h2
        · rw [hyl]; exact hg
theorem ok_law_numbered (T : Txt K mg) : FnOk P w K mg base CX0 42 T.f_law_numbered T.fd_law_numbered ["shape", "left"] (SpG K (some 1) (G_numR 38)) := rec_law_numbered T 38

/-! ### _law_tree -/
theorem perm_pop {ls is : List Int} {i : Nat} {y : Int} (h : ls[i]? = some y) : (ls.eraseIdx i ++ (is ++ [y])).Perm (ls ++ is) := by
  have e : (y :: ls.eraseIdx i).Perm ls := by
    rw [List.eraseIdx_eq_take_drop_succ]
    conv => rhs; rw [split_at h]
    exact (List.perm_middle (a := y)).symm
  have h1 : (ls.eraseIdx i ++ (is ++ [y])).Perm (ls.eraseIdx i ++ (y :: is)) := List.Perm.append_left _ (List.perm_append_singleton y is)
  exact (h1.trans List.perm_middle).trans (e.append_right is)
def G_law_tree : GF := fun ls Po _ => ∃ (ns : List Int) (first most : Int), ls = [.scr ns, .d (.int first), .d (.int most)] ∧ (ns.length ≤ 63 ∧ 0 ≤ first ∧ first ≤ 60 ∧ most ≤ 24) ∧ ∀ x nsx (n : Nat), TrOk x nsx → nsx.Perm (ixs 0 n) → n ≤ 24 → Po (.d x) []
theorem ok_law_tree (T : Txt K mg) : FnOk P w K mg base CX0 43 T.f_law_tree T.fd_law_tree ["script", "first", "most"] (SpG K none G_law_tree) := by
  refine T.d_law_tree.F.ok sc_law_tree (SpG.len (n := 3) fun ls Po Pe h => by obtain ⟨_, _, _, rfl, _⟩ := h; rfl) (fun cdv A outer s H vs Q E hr h => ⟨_, (pss_cons (ps_set (i := 3) sc_law_tree.nd rfl (.inl rfl) (pe_call (ok_law_shape T) (hr.mono (by decide)) (by rfl) T.d_law_shape.g T.d_law_shape.kp T.d_law_shape.b .nil pass0 (pa_cons (pe_slice (k_sl K) (pv 0) (po_some (pv 1)) (po_some pe_int)) (pa_cons (pe_ix (k_ix K) pe_str (pe_op op_modN (pe_call (ok_law_cell T) (hr.mono (by decide)) (by rfl) T.d_law_cell.g T.d_law_cell.kp T.d_law_cell.b .nil pass0 (pa_cons (pv 0) (pa_cons pe_int pa_nil))) pe_int) (fun _ _ => rfl)) (pa_cons (pv 2) pa_nil)))))
 (pss_cons (ps_setO (i := 4) sc_law_tree.nd rfl (.inl rfl) (pe_listRg rfl (by rfl) T.b_list (prg_1 (by rfl) T.b_range (pe_call (ok_law_count T) hr (by rfl) T.d_law_count.g T.d_law_count.kp T.d_law_count.b .nil pass0 (pa_cons (pv 3) pa_nil)))))
 (pss_cons (ps_setO (i := 5) sc_law_tree.nd rfl (.inl rfl) (pe_lst pa_nil))
 (pss_cons (ps_for PassesOwn.never rfl (pi_range1 (by rfl) T.b_range (pa_cons (pe_callB (k_len K) (by rfl) T.b_len PySem.boot_len (pa_cons (pv 4) pa_nil)) pa_nil)) (pg_name (i := 6) sc_law_tree.nd rfl (Or.inl rfl)) (pss_one (ps_expr (k_bm K rfl PySem.F.plainAttrs_list PySem.F.slot_list_append PySem.F.type_list_append mt_append (pv 5) (pa_cons (k_bm K rfl PySem.F.plainAttrs_list PySem.F.slot_list_pop PySem.F.type_list_pop mt_popAt (pv 4) (pa_cons (pe_op op_modN (pe_op op_fdivN (pe_call (ok_law_cell T) (hr.mono (by decide)) (by rfl) T.d_law_cell.g T.d_law_cell.kp T.d_law_cell.b .nil pass0 (pa_cons (pv 0) (pa_cons (pe_op (k_plus K) (pv 1) (pv 6)) pa_nil))) pe_int) (pe_callB (k_len K) (by rfl) T.b_len PySem.boot_len (pa_cons (pv 4) pa_nil))) pa_nil)) pa_nil)))))
 (pss_one (ps_ret (pe_call (ok_law_numbered T) hr (by rfl) T.d_law_numbered.g T.d_law_numbered.kp T.d_law_numbered.b .nil pass0 (pa_cons (pv 3) (pa_cons (pv 5) pa_nil))))))))), rd_of h fun B ls Po Pe hB hG hE => ?_⟩)
  obtain ⟨ns, first, most, rfl, ⟨hn, f0, f1, hm⟩, q⟩ := hG
  show WS B K _ [some (.scr ns), some (.d (.int first)), some (.d (.int most)), none, none, none, none] _
  walk_at "sn"
  refine ⟨ns, 0, rfl, ⟨by decide, by decide, hn⟩, fun z0 => ⟨_, rfl, ?_⟩⟩
  walk_at "sn"
  have r0 := Int.emod_nonneg z0 (show (2 : Int) ≠ 0 by decide)
  have r1 := Int.emod_lt_of_pos z0 (show (0 : Int) < 2 by decide)
  obtain ⟨c, hc, hck⟩ : ∃ c, atI (Str.ofString "|-").cps.toList (z0 % 2) = some c ∧ ((⟨#[c]⟩ : Str) = barS ∨ (⟨#[c]⟩ : Str) = dashS) := by
    rcases (show z0 % 2 = 0 ∨ z0 % 2 = 1 by omega) with e | e <;> rw [e]
    · exact ⟨124, by decide +kernel, .inl (by decide +kernel)⟩
    · exact ⟨45, by decide +kernel, .inr (by decide +kernel)⟩
  refine idx_str (by decide +kernel) hc ?_
  walk_at "sn"
  have hcl : (cutD ns (some first) (some 63)).length ≤ 63 := Nat.le_trans (cutD_len ns _ _) hn
  refine ⟨_, _, most, rfl, ⟨hck, hcl, hm⟩, fun x n hx hn24 => ⟨_, rfl, ?_⟩⟩
  clear hck hc hcl r0 r1
  have hxp := shN_pos _ (Nat.le_refl _) hx
  show WS B K _ [some (.scr ns), some (.d (.int first)), some (.d (.int most)), some (.d x), none, none, none] _
  walk_at "sn"
  refine ⟨x, n, rfl, ⟨shN_cN _ (Nat.le_refl _) hx, by omega, by decide⟩, ⟨_, rfl, ?_⟩⟩
  walk_at "sn"
  rw [Int.toNat_natCast]
  refine ⟨by rw [List.length_map, ixs_len]; omega, ?_⟩
  rw [List.length_map, ixs_len, Int.toNat_natCast]
  show Loop B K _ _ _ (ixs 0 n) [some (.scr ns), some (.d (.int first)), some (.d (.int most)), some (.d x), some (.own ((ixs 0 n).map .int)), some (.own []), none] _
  refine ⟨fun pre ρ' => ∃ (ks is : List Int) (o6 : Option L), ((ks ++ is).Perm (ixs 0 n) ∧ is.length = pre.length) ∧ ρ' = [some (.scr ns), some (.d (.int first)), some (.d (.int most)), some (.d x), some (.own (ks.map .int)), some (.own (is.map .int)), o6], ⟨ixs 0 n, [], none, ⟨by rw [List.append_nil], rfl⟩, rfl⟩, fun pre a post ρ2 ha hI => ?_, fun ρ2 hI => ?_⟩
  · obtain ⟨ks, is, o6, ⟨hp, hi⟩, rfl⟩ := hI
    obtain ⟨ea, hpn⟩ := ixs_split ha
    have hkl : ks.length + pre.length = n := by
      have := hp.length_eq
      rw [List.length_append, ixs_len] at this
      omega
    refine wg_name (np_of hB (by decide)) ?_
    refine ws_opq fun Z' hnx hrt hbk hct => ?_
    walk_at "sn"
    refine wd_e (we_popAt rfl ?_)
    walk_at "sn"
    refine ⟨ns, first + a, rfl, ⟨by omega, by omega, hn⟩, fun z1 => ⟨_, rfl, ?_⟩⟩
    walk_at "sn"
    have hkm : ((ks.map PyData.int).length : Int) = (ks.length : Nat) := by rw [List.length_map]
    have hk0 : 0 < ks.length := by omega
    rw [hkm]
    generalize hz : z1 / 4 % (ks.length : Int) = z
    have z0' : 0 ≤ z := by rw [← hz]; exact Int.emod_nonneg _ (by omega)
    have z1' : z < ks.length := by rw [← hz]; exact Int.emod_lt_of_pos _ (by omega)
    obtain ⟨i, rfl⟩ : ∃ i : Nat, z = (i : Int) := ⟨z.toNat, by omega⟩
    obtain ⟨y, hy⟩ : ∃ y, ks[i]? = some y := ⟨_, List.getElem?_eq_getElem (by omega)⟩
    refine ⟨ks.map .int, (i : Int), i, .int y, rfl, rfl, by omega, by omega, ixN_of (by rw [List.length_map]; omega), by rw [List.getElem?_map, hy]; rfl, ?_⟩
    refine ⟨_, rfl, ?_⟩
    walk_at "sn"
    have e1 : (ks.map PyData.int).eraseIdx i = (ks.eraseIdx i).map .int := by
      rw [List.eraseIdx_eq_take_drop_succ, List.eraseIdx_eq_take_drop_succ, List.map_append, List.map_take, List.map_drop]
    have e2 : is.map PyData.int ++ [.int y] = (is ++ [y]).map .int := by rw [List.map_append]; rfl
    rw [e1]
    first
      | exact hnx _ ⟨ks.eraseIdx i, is ++ [y], _, ⟨(perm_pop hy).trans hp, by rw [List.length_append, List.length_append, hi]; rfl⟩, by rw [← e2]; rfl⟩
      | refine ⟨_, rfl, by rw [List.length_map]; show is.length < 1000000; omega, hnx _ ⟨ks.eraseIdx i, is ++ [y], _, ⟨(perm_pop hy).trans hp, by rw [List.length_append, List.length_append, hi]; rfl⟩, by rw [← e2]; rfl⟩⟩
  · obtain ⟨ks, is, o6, ⟨hp, hi⟩, rfl⟩ := hI
    rw [ixs_len] at hi
    have hk0 : ks = [] := by
      have := hp.length_eq
      rw [List.length_append, ixs_len, hi] at this
      exact List.eq_nil_of_length_eq_zero (by omega)
    subst hk0
    rw [List.nil_append] at hp
    refine ws_ret (we_callP ?_)
    walk_at "sn"
    refine ⟨x, _, n, is, [], by rw [List.append_nil]; rfl, ⟨hx, by omega, by decide, hi, by rw [hi]; show n + 0 ≤ 1000; omega⟩, fun y nsy hy hpy => ?_⟩
    have hpf := hpy.trans hp
    exact q y nsy n ⟨hy, num_okD hy, num_nodes _ (Nat.le_refl _) hy⟩ hpf hn24

/-! ### _law_texts -/
def G_law_texts : GF := fun ls Po _ => ∃ (ns : List Int) (many : Int), ls = [.scr ns, .d (.int many)] ∧ (ns.length ≤ 63 ∧ 0 ≤ many ∧ many ≤ 24) ∧ ∀ ts : List (List Str), (ts.length : Int) = many → TxOk ts → Po (.new (ts.map textD)) []
theorem ok_law_texts (T : Txt K mg) : FnOk P w K mg base CX0 3 T.f_law_texts T.fd_law_texts ["script", "many"] (SpG K none G_law_texts) := by
  refine T.d_law_texts.F.ok sc_law_texts (SpG.len (n := 2) fun ls Po Pe h => by obtain ⟨_, _, rfl, _⟩ := h; rfl) (fun cdv A outer s H vs Q E hr h => ⟨_, (pss_cons (ps_setO (i := 2) sc_law_texts.nd rfl (.inl rfl) (pe_lst pa_nil))
 (pss_cons (ps_for PassesOwn.never rfl (pi_range1 (by rfl) T.b_range (pa_cons (pv 1) pa_nil)) (pg_name (i := 3) sc_law_texts.nd rfl (Or.inr rfl)) (pss_cons (ps_set (i := 4) sc_law_texts.nd rfl (.inl rfl) (pe_op op_modN (pe_call (ok_law_cell T) hr (by rfl) T.d_law_cell.g T.d_law_cell.kp T.d_law_cell.b .nil pass0 (pa_cons (pv 0) (pa_cons (pe_op (k_plus K) pe_int (pv 3)) pa_nil))) (pe_ix (k_ix K) (pe_lst (pa_cons pe_int (pa_cons pe_int (pa_cons pe_int (pa_cons (pe_ix (k_ix K) (pe_lst (pa_cons pe_int (pa_cons pe_int pa_nil))) (pe_callTy call_int1 (by rfl) T.b_int (by decide +kernel) (pa_cons (pe_cmpR op_gt (pv 1) pe_int (nomark _)) pa_nil)) (fun _ _ => rfl)) pa_nil))))) (pe_op op_modN (pe_call (ok_law_cell T) hr (by rfl) T.d_law_cell.g T.d_law_cell.kp T.d_law_cell.b .nil pass0 (pa_cons (pv 0) (pa_cons pe_int pa_nil))) pe_int) (fun _ _ => rfl))))
 (pss_one (ps_expr (k_bm K rfl PySem.F.plainAttrs_list PySem.F.slot_list_append PySem.F.type_list_append mt_append (pv 2) (pa_cons (pe_lc (own := [("j", 5)]) (g := _) (tt := _) (by rfl) sc_law_texts.nd (pi_range1 (by rfl) T.b_range (pa_cons (pv 4) pa_nil)) (blkOk_by (N := N_law_texts) (sc := defScope s_law_texts) (by decide +kernel)) (fun _ _ _ _ _ => (pg_name (i := 5) sc_law_texts.nd rfl (Or.inl rfl))) (fun _ _ _ _ _ => pts_nil) (fun _ _ _ _ _ => (pe_call (ok_law_word T) (hr.mono (by decide)) (by rfl) T.d_law_word.g T.d_law_word.kp T.d_law_word.b .nil pass0 (pa_cons (pe_op (k_plus K) (pe_call (ok_law_stir T) (hr.mono (by decide)) (by rfl) T.d_law_stir.g T.d_law_stir.kp T.d_law_stir.b .nil pass0 (pa_cons (pe_call (ok_law_cell T) hr (by rfl) T.d_law_cell.g T.d_law_cell.kp T.d_law_cell.b .nil pass0 (pa_cons (pv 0) (pa_cons (pe_op (k_plus K) pe_int (pv 3)) pa_nil))) (pa_cons (pv 5) pa_nil))) (pv 5)) pa_nil)))) pa_nil))))))
 (pss_one (ps_ret (pv 2))))), rd_of h fun B ls Po Pe hB hG hE => ?_⟩)
  obtain ⟨ns, many, rfl, ⟨hn, h0, h1⟩, q⟩ := hG
  show WS B K _ [some (.scr ns), some (.d (.int many)), none, none, none, none] _
  walk_at "sn"
  refine ⟨fun pre ρ' => ∃ (ts : List (List Str)) (o3 o4 o5 : Option L), (ts.length = pre.length ∧ ∀ ws, ws ∈ ts → ws.length ≤ 40 ∧ ∀ v, v ∈ ws → IsWord v) ∧ ρ' = [some (.scr ns), some (.d (.int many)), some (.own (ts.map textD)), o3, o4, o5], ⟨[], _, _, _, ⟨rfl, fun v hv => nomatch hv⟩, rfl⟩, fun pre a post ρ2 ha hI => ?_, fun ρ2 hI => ?_⟩
  · obtain ⟨ts, o3, o4, o5, ⟨hl, hts⟩, rfl⟩ := hI
    obtain ⟨ea, hpn⟩ := ixs_split ha
    refine wg_name (np_of hB (by decide)) ?_
    refine ws_opq fun Z' hnx _ _ _ => ?_
    obtain ⟨m0, hm0, hm1, hm2⟩ : ∃ m : Int, atI [PyData.int 41, .int 6] (if decide (many > 4) then 1 else 0) = some (.int m) ∧ 0 < m ∧ m ≤ 41 := by
      by_cases c : many > 4
      · exact ⟨6, by rw [decide_eq_true c]; rfl, by decide, by decide⟩
      · exact ⟨41, by rw [decide_eq_false c]; rfl, by decide, by decide⟩
    walk_at "sn"
    refine ⟨ns, 30 + a, rfl, ⟨by omega, by omega, hn⟩, fun z1 => ⟨_, rfl, ?_⟩⟩
    refine ⟨_, rfl, ?_⟩
    walk_at "sn"
    refine idx_list hm0 ?_
    walk_at "sn"
    refine ⟨ns, 1, rfl, ⟨by decide, by decide, hn⟩, fun z2 => ⟨_, rfl, ?_⟩⟩
    obtain ⟨m, hm, hm3, hm4⟩ : ∃ m : Int, atI [PyData.int 6, .int 6, .int 12, .int m0] (z2 % 4) = some (.int m) ∧ 0 < m ∧ m ≤ 41 := by
      rcases (show z2 % 4 = 0 ∨ z2 % 4 = 1 ∨ z2 % 4 = 2 ∨ z2 % 4 = 3 by omega) with e | e | e | e <;> rw [e]
      · exact ⟨6, rfl, by decide, by decide⟩
      · exact ⟨6, rfl, by decide, by decide⟩
      · exact ⟨12, rfl, by decide, by decide⟩
      · exact ⟨m0, rfl, hm1, hm2⟩
    walk_at "sn"
    refine idx_list hm ?_
    refine ⟨m, rfl, hm3, ?_⟩
    have f0 := Int.emod_nonneg z1 (show m ≠ 0 by omega)
    have f1 := Int.emod_lt_of_pos z1 hm3
    generalize z1 % m = sz at f0 f1 ⊢
    walk_at "sn"
    refine wd_e (we_lc1 (fun (j : Int) o => ∃ x : Str, IsWord x ∧ o = some (.str x)) (.name 5) ?_)
    walk_at "sn"
    refine ⟨fun j hj B' hB' => ?_, fun ys hy => ?_⟩
    · have hjb := ixs_mem hj
      walk_at "sn"
      refine ⟨ns, 5 + a, rfl, ⟨by omega, by omega, hn⟩, fun z3 => ⟨_, rfl, ?_⟩⟩
      walk_at "sn"
      refine ⟨z3, j, rfl, ⟨by omega, by omega⟩, fun z4 _ => ⟨_, rfl, ?_⟩⟩
      walk_at "sn"
      exact ⟨_, rfl, fun x hx => ⟨_, rfl, x, hx, rfl⟩⟩
    obtain ⟨ws, rfl, hws, hwl⟩ := Sel.pick (f := PyData.str) (G := IsWord) hy
    rw [ixs_len] at hwl
    refine ⟨_, rfl, ?_⟩
    walk_at "sn"
    have es : ts.map textD ++ [PyData.list (ws.map .str)] = (ts ++ [ws]).map textD := by rw [List.map_append]; rfl
    first
      | (rw [es])
      | (refine ⟨_, rfl, by rw [List.length_map]; show ts.length < 1000000; omega, ?_⟩; rw [es])
    refine hnx _ ⟨ts ++ [ws], _, _, _, ⟨by rw [List.length_append, List.length_append, hl]; rfl, fun v hv => ?_⟩, rfl⟩
    rcases List.mem_append.mp hv with hv | hv
    · exact hts v hv
    · rw [List.mem_singleton.mp hv]; exact ⟨by omega, hws⟩
  · obtain ⟨ts, o3, o4, o5, ⟨hl, hts⟩, rfl⟩ := hI
    rw [ixs_len] at hl
    walk_at "sn"
    exact q ts (by omega) ⟨by omega, fun ws hws => (hts ws hws).1, fun ws hws => (hts ws hws).2⟩

/-! ### each tree fits somewhere -/
theorem len_bound : ∀ ws : List Str, ∃ w : Int, 1 ≤ w ∧ ∀ v, v ∈ ws → (v.length : Int) ≤ w
  | [] => ⟨1, by decide, fun v h => nomatch h⟩
  | a :: ws => by
    obtain ⟨w, h1, h2⟩ := len_bound ws
    refine ⟨w + (a.length : Int), by omega, fun v hv => ?_⟩
    rcases List.mem_cons.mp hv with rfl | hv
    · omega
    · have := h2 v hv
      omega
theorem fitB_ex (ws : List Str) : ∃ w h, fitB ws w h := by
  obtain ⟨w, h1, h2⟩ := len_bound ws
  exact ⟨w, 1 + (cW ws w : Int), h1, by omega, h2, by omega⟩
theorem below_ex {tx : Int → List Str} : ∀ {ps : List PyData}, (∀ p, p ∈ ps → Mono (fitT tx p) ∧ ∃ w h, fitT tx p w h) → ∃ W, ∀ w, W ≤ w → ∃ h, fitBelow tx ps w h
  | [], _ => ⟨0, fun w _ => ⟨0, below_nil.mpr (Int.le_refl _)⟩⟩
  | p :: ps, h => by
    obtain ⟨hm, w0, h0, q0⟩ := h p List.mem_cons_self
    obtain ⟨W, hW⟩ := below_ex fun p hp => h p (List.mem_cons_of_mem _ hp)
    refine ⟨max W w0, fun w hw => ?_⟩
    obtain ⟨h1, q1⟩ := hW w (by omega)
    refine ⟨h0 + h1, below_cons.mpr ⟨h0, hm _ _ _ _ q0 (by omega) (Int.le_refl _), ?_⟩⟩
    rw [show h0 + h1 - h0 = h1 by omega]
    exact q1
theorem beside_ex {tx : Int → List Str} : ∀ {ps : List PyData}, (∀ p, p ∈ ps → Mono (fitT tx p) ∧ ∃ w h, fitT tx p w h) → ∃ H, ∀ h, H ≤ h → ∃ w, fitBeside tx ps w h
  | [], _ => ⟨0, fun w _ => ⟨0, beside_nil.mpr (Int.le_refl _)⟩⟩
  | p :: ps, h => by
    obtain ⟨hm, w0, h0, q0⟩ := h p List.mem_cons_self
    obtain ⟨H, hH⟩ := beside_ex fun p hp => h p (List.mem_cons_of_mem _ hp)
    refine ⟨max H h0, fun h hh => ?_⟩
    obtain ⟨w1, q1⟩ := hH h (by omega)
    refine ⟨w0 + w1, beside_cons.mpr ⟨w0, hm _ _ _ _ q0 (Int.le_refl _) (by omega), ?_⟩⟩
    rw [show w0 + w1 - w0 = w1 by omega]
    exact q1
theorem fit_ex (tx : Int → List Str) {x : PyData} {ab : Str} {ns : List Int} (h : numT ab x = some ns) : ∃ w y, fitT tx x w y := by
  refine (tree_ind (P := fun x => (∃ w y, fitT tx x w y) ∧ Mono (fitT tx x)) (fun i => ⟨?_, ?_⟩) (fun k ps hk hl ih => ?_) h).1
  · obtain ⟨w, y, q⟩ := fitB_ex (tx i)
    exact ⟨w, y, fitT_int.mpr q⟩
  · exact fun w h w' h' q a b => fitT_int.mpr (fitB_mono _ _ _ _ _ (fitT_int.mp q) a b)
  · have ih2 : ∀ p, p ∈ ps → Mono (fitT tx p) ∧ ∃ w h, fitT tx p w h := fun p hp => ⟨(ih p hp).2, (ih p hp).1⟩
    rcases hk with rfl | rfl
    · refine ⟨?_, fun w h w' h' q a b => fitT_bar.mpr (beside_mono (fun p hp => (ih p hp).2) _ _ _ _ (fitT_bar.mp q) a b)⟩
      obtain ⟨H, hH⟩ := beside_ex ih2
      obtain ⟨w, q⟩ := hH H (Int.le_refl _)
      exact ⟨w, H, fitT_bar.mpr q⟩
    · refine ⟨?_, fun w h w' h' q a b => fitT_dash.mpr (below_mono (fun p hp => (ih p hp).2) _ _ _ _ (fitT_dash.mp q) a b)⟩
      obtain ⟨W, hW⟩ := below_ex ih2
      obtain ⟨y, q⟩ := hW W (Int.le_refl _)
      exact ⟨W, y, fitT_dash.mpr q⟩

/-! ### setting -/
abbrev Pe3 := PyData × PyData × Pc
def pe3D (e : Pe3) : PyData := .tuple [e.2.1, pcD e.2.2]
noncomputable def setP (tx : Int → List Str) (pile : List Pe3) : List (Int × Pc) := (pile.map fun e => setT tx e.1 e.2.2).flatten
def pileM (pile : List Pe3) : Nat := (pile.map fun e => nodes e.1).sum
theorem setP_app {tx : Int → List Str} (a b : List Pe3) : setP tx (a ++ b) = setP tx a ++ setP tx b := by unfold setP; rw [List.map_append, List.flatten_append]
theorem pileM_app (a b : List Pe3) : pileM (a ++ b) = pileM a + pileM b := by unfold pileM; rw [List.map_append, List.sum_append]
theorem pileM_len : ∀ a : List Pe3, a.length ≤ pileM a
  | [] => Nat.le_refl _
  | e :: a => by
    have h1 := pileM_len a
    have h2 := nodes_pos e.1
    have h3 : pileM (e :: a) = nodes e.1 + pileM a := by unfold pileM; rw [List.map_cons, List.sum_cons]
    rw [h3, List.length_cons]
    omega
def zz : List PyData → List PyData → (Nat → Pc) → List Pe3
  | q :: qs, y :: ys, f => (q, y, f 0) :: zz qs ys fun j => f (j + 1)
  | _, _, _ => []
theorem zz_set {tx : Int → List Str} : ∀ {qs ys : List PyData} {f : Nat → Pc}, ys.length = qs.length → setP tx (zz qs ys f) = setTs tx qs f
  | [], [], f, _ => by rw [setTs_nil]; rfl
  | [], _ :: _, _, h => by cases h
  | _ :: _, [], _, h => by cases h
  | q :: qs, y :: ys, f, h => by
    rw [setTs_cons, ← zz_set (ys := ys) (Nat.succ.inj h)]
    rfl
theorem zz_M : ∀ {qs ys : List PyData} {f : Nat → Pc}, ys.length = qs.length → pileM (zz qs ys f) = nodess qs
  | [], [], f, _ => by rw [nodess_nil]; rfl
  | [], _ :: _, _, h => by cases h
  | _ :: _, [], _, h => by cases h
  | q :: qs, y :: ys, f, h => by
    rw [nodess_cons, ← zz_M (ys := ys) (f := fun j => f (j + 1)) (Nat.succ.inj h)]
    show (nodes q :: _).sum = _
    rw [List.sum_cons]
    rfl
theorem zz_D : ∀ {qs ys : List PyData} {f : Nat → Pc}, ys.length = qs.length → List.zipWith (fun x y => PyData.tuple [x, y]) ys ((List.range qs.length).map fun j => pcD (f j)) = (zz qs ys f).map pe3D
  | [], [], f, _ => rfl
  | [], _ :: _, _, h => by cases h
  | _ :: _, [], _, h => by cases h
  | q :: qs, y :: ys, f, h => by
    rw [List.length_cons, List.range_succ_eq_map, List.map_cons, List.map_map, List.zipWith_cons_cons]
    have ih := zz_D (qs := qs) (ys := ys) (f := fun j => f (j + 1)) (Nat.succ.inj h)
    show _ :: List.zipWith _ ys ((List.range qs.length).map fun j => pcD (f (j + 1))) = _ :: (zz qs ys fun j => f (j + 1)).map pe3D
    rw [ih]
    rfl
theorem zz_mem : ∀ {qs ys : List PyData} {f : Nat → Pc} {e : Pe3}, e ∈ zz qs ys f → ∃ j q y, qs[j]? = some q ∧ ys[j]? = some y ∧ e = (q, y, f j)
  | [], _, _, _, h => nomatch h
  | _ :: _, [], _, _, h => nomatch h
  | q :: qs, y :: ys, f, e, h => by
    rcases List.mem_cons.mp h with rfl | h
    · exact ⟨0, q, y, rfl, rfl, rfl⟩
    · obtain ⟨j, q', y', e1, e2, e3⟩ := zz_mem h
      exact ⟨j + 1, q', y', e1, e2, e3⟩
theorem OkD.tup_in {n : Nat} {xs : List PyData} (h : OkD n (.tuple xs)) : ∀ x, x ∈ xs → OkD n x := by
  cases h with
  | tuple h => exact fun x hx => (h x hx).mono (Nat.le_succ _)
theorem eqv_nilL {ys : List PyData} (h : PyData.eqv (.list ys) (.list []) = true) : ys = [] := (fk_nil (A := ys = []) (B := True) (fun h => h) fun _ => trivial).1 h
structure POk (tx : Int → List Str) (e : Pe3) : Prop where
  mea : Mea tx e.1 e.2.1
  fit : PcFit tx e.1 e.2.2
  num : ∃ ab ms, numT ab e.1 = some ms ∧ ms.length ≤ 24
theorem POk.parts {tx : Int → List Str} {k : Str} {ps ys : List PyData} {p : Pc} (hyl : ys.length = ps.length) (hm : ∀ (j : Nat) q y, ps[j]? = some q → ys[j]? = some y → Mea tx q y) (hf : PcFit tx (.tuple [.str k, .tuple ps]) p) (hn : ∀ q, q ∈ ps → ∃ ab ms, numT ab q = some ms ∧ ms.length ≤ 24) : ∀ e, e ∈ zz ps ys (pcs tx k ps p) → POk tx e := fun e he => by
  obtain ⟨j, q, y, e1, e2, rfl⟩ := zz_mem he
  exact ⟨hm j q y e1 e2, pcs_fit (fun q hq => by obtain ⟨ab, ms, g, _⟩ := hn q hq; exact ⟨ab, ms, g⟩) hf e1, hn q (List.mem_of_getElem? e1)⟩
def G_setting : GF := fun ls Po _ => ∃ (x : PyData) (ts : List (List Str)) (ns : List Int) (w h : Int), ls = [.d x, .d (.list (ts.map textD)), .d (.int w), .d (.int h)] ∧ (TrTx x ts ns ∧ ns.Perm (ixs 0 ts.length) ∧ fitT (txt ts) x w h) ∧ Po (.new ((ixs 0 ts.length).map fun i => pcD (pieceOf (setT (txt ts) x (0, 0, w, h)) i))) []
theorem ok_setting (T : Txt K mg) : FnOk P w K mg base (L2.CX P w) 62 T.f_setting T.fd_setting ["tree", "texts", "wide", "high"] (SpG K none G_setting) := by
  refine T.d_setting.F.okX sc_setting (SpG.len (n := 4) fun ls Po Pe h => by obtain ⟨_, _, _, _, _, rfl, _⟩ := h; rfl) (fun cdv A outer s H vs Q E hr h => ⟨_, (pss_cons (ps_set (i := 4) sc_setting.nd rfl (.inl rfl) (pe_call (ok_need_measured T) hr (by rfl) T.d_need_measured.g T.d_need_measured.kp T.d_need_measured.b .nil (passes_call (takes_of rfl rfl rfl rfl) fun _ _ _ _ h => h) (pa_cons (pv 0) (pa_cons (pv 1) pa_nil))))
 (pss_cons (ps_set (i := 5) sc_setting.nd rfl (.inl rfl) (pe_call (ok_high_for T) (hr.mono (by decide)) (by rfl) T.d_high_for.g T.d_high_for.kp T.d_high_for.b .nil pass0 (pa_cons (pe_ix (k_ix K) (pv 4) pe_int (fun _ _ => rfl)) (pa_cons (pv 2) pa_nil))))
 (pss_cons (ps_if (PW.pt (pw_or (pt_cmp (pc_isN (pv 5))) (pw_or1 (pt_cmpR op_gt (pv 5) (pv 3) (nomark _))))) (pss_one (p_raise (takes_of rfl rfl rfl rfl) (pmk_own PySem.F.excBase_ValueError T.NoRoom.x T.NoRoom.g T.NoRoom.k (raises_own T.NoRoom.b T.NoRoom.t) (by exact rfl)))) pss_nil)
 (pss_cons (ps_setO (i := 6) sc_setting.nd rfl (.inr rfl) pe_dnewK)
 (pss_cons (ps_setO (i := 7) sc_setting.nd rfl (.inl rfl) (pe_lst (pa_cons (pe_tup (pa_cons (pv 4) (pa_cons (pe_tup (pa_cons pe_int (pa_cons pe_int (pa_cons (pv 2) (pa_cons (pv 3) pa_nil))))) pa_nil))) pa_nil)))
 (pss_cons (ps_while (passes_of rfl) (pt_cmpR (k_neE K rfl hr.units) (pv 7) (pe_lst pa_nil) (nomark _)) (pss_cons (ps_asg (k_bm0 K rfl PySem.F.plainAttrs_list PySem.F.slot_list_pop PySem.F.type_list_pop mt_pop (pv 7)) (k_gTup (n := 2) K rfl rfl (pgs_cons (pg_name (i := 8) sc_setting.nd rfl (Or.inl rfl)) (pgs_cons (pg_name (i := 9) sc_setting.nd rfl (Or.inl rfl)) pgs_nil))))
 (pss_one (ps_if (pt_cmpR (k_eqD K rfl hr.units) (pe_ix (k_ix K) (pv 8) pe_int (fun _ _ => rfl)) (pe_lst pa_nil) (nomark _)) (pss_one (ps_dput (hu_of hr) (pv 6) (pe_ix (k_ix K) (pv 8) pe_int (fun _ _ => rfl)) (pv 9) rfl)) (pss_one (ps_if (pt_cmpR (k_eqD K rfl hr.units) (pe_ix (k_ix K) (pe_ix (k_ix K) (pv 8) pe_int (fun _ _ => rfl)) pe_int (fun _ _ => rfl)) pe_str (nomark _)) (pss_one (ps_expr (k_bm K rfl PySem.F.plainAttrs_list PySem.F.slot_list_extend PySem.F.type_list_extend mt_extend (pv 7) (pa_cons (k_listZip K rfl rfl (by rfl) T.b_list (by decide +kernel) (by rfl) T.b_zip (pa_cons (pe_ix (k_ix K) (pv 8) pe_int (fun _ _ => rfl)) (pa_cons (pe_call (ok_laid_beside T) (hr.mono (by decide)) (by rfl) T.d_laid_beside.g T.d_laid_beside.kp T.d_laid_beside.b .nil pass0 (pa_cons (pe_ix (k_ix K) (pv 8) pe_int (fun _ _ => rfl)) (pa_cons (pv 9) pa_nil))) pa_nil))) pa_nil)))) (pss_one (ps_expr (k_bm K rfl PySem.F.plainAttrs_list PySem.F.slot_list_extend PySem.F.type_list_extend mt_extend (pv 7) (pa_cons (k_listZip K rfl rfl (by rfl) T.b_list (by decide +kernel) (by rfl) T.b_zip (pa_cons (pe_ix (k_ix K) (pv 8) pe_int (fun _ _ => rfl)) (pa_cons (pe_call (ok_laid_beneath T) (hr.mono (by decide)) (by rfl) T.d_laid_beneath.g T.d_laid_beneath.kp T.d_laid_beneath.b .nil pass0 (pa_cons (pe_ix (k_ix K) (pv 8) pe_int (fun _ _ => rfl)) (pa_cons (pv 9) pa_nil))) pa_nil))) pa_nil))))))))))
 (pss_one (ps_ret (pe_lc (own := [("number", 10)]) (g := _) (tt := _) (by rfl) sc_setting.nd (pi_range1 (by rfl) T.b_range (pa_cons (pe_callB call_lenD (by rfl) T.b_len PySem.boot_len (pa_cons (pv 6) pa_nil)) pa_nil)) (blkOk_by (N := N_setting) (sc := defScope s_setting) (by decide +kernel)) (fun _ _ _ _ _ => (pg_name (i := 10) sc_setting.nd rfl (Or.inl rfl))) (fun _ _ _ _ _ => pts_nil) (fun _ _ _ _ _ => (pe_dget (hu_of hr) (pv 6) (pv 10) (fun _ _ => rfl)))))))))))), rd_of h fun B ls Po Pe hB hG hE => ?_⟩)
  obtain ⟨x, ts, ns, w, h, rfl, ⟨hX, hp, hfit⟩, q⟩ := hG
  have hnl := hX.good.le
  have hx := hX.num
  show WS B K _ [some (.d x), some (.d (.list (ts.map textD))), some (.d (.int w)), some (.d (.int h)), none, none, none, none, none, none, none] _
  walk_at "sn"
  refine ⟨_, fun _ => False, rfl, ⟨x, ts, ns, rfl, hX, fun y hy => ?_⟩, fun C h => h.elim⟩
  have hyok := mea_okD hx hy
  obtain ⟨R, z, ey, hR⟩ := hy.st
  refine ⟨_, rfl, ?_⟩
  rw [ey]
  walk_at "sn"
  refine ⟨R, w, rfl, ⟨hR.sc, by have := stairs_len hX.tx hx hnl hR; omega⟩, fun o ho => ⟨_, rfl, ?_⟩⟩
  rw [← ey]
  obtain ⟨t, rfl, ht⟩ := (ho h).mp ((hR.up w h).mpr hfit)
  show WS B K _ [some (.d x), some (.d (.list (ts.map textD))), some (.d (.int w)), some (.d (.int h)), some (.d y), some (.d (.int t)), none, none, none, none, none] _
  clear ey
  walk_at "sn"
  refine ws_ifC False True ?_ (fun z => z.elim) fun _ => ?_
  · walk_at "sv"
    exact ⟨rfl, (fun h => by have h := of_decide_eq_true h; omega), fun _ => trivial⟩
  have hnn := num_nodes _ (Nat.le_refl _) hx
  walk_at "sn"
  generalize hS : setT (txt ts) x (0, 0, w, h) = S at q
  have hkS : (kbL S).Perm (ixs 0 ts.length) := by
    rw [← hS]
    exact (setT_keys hx _).trans hp
  have hndS : (kbL S).Nodup := by
    refine hkS.nodup_iff.mpr ?_
    unfold ixs
    refine List.Pairwise.map _ (fun a b e z => e ?_) List.nodup_range
    omega
  have hSl : S.length = ts.length := by
    have := hkS.length_eq
    rw [ixs_len] at this
    unfold kbL at this
    rw [List.length_map] at this
    exact this
  refine ws_while (fun m ρ => ∃ (bs : List (Int × Pc)) (pile : List Pe3) (o8 o9 : Option L), ρ = [some (.d x), some (.d (.list (ts.map textD))), some (.d (.int w)), some (.d (.int h)), some (.d y), some (.d (.int t)), some (.ownD ((kbL bs).map Sum.inl) (vbL bs)), some (.own (pile.map pe3D)), o8, o9, none] ∧ m = pileM pile ∧ m ≤ 100000 ∧ (∀ e, e ∈ pile → POk (txt ts) e) ∧ (bs ++ setP (txt ts) pile).Perm S)
    ⟨pileM [(x, y, (0, 0, w, h))], [], [(x, y, (0, 0, w, h))], none, none, rfl, rfl, ?_, ?_, ?_⟩ fun m ρ1 hW => ?_
  · show nodes x + 0 ≤ 100000
    omega
  · intro e he
    rw [List.mem_singleton.mp he]
    refine ⟨hy, ?_, _, _, hx, hnl⟩
    show fitT (txt ts) x (w - 0) (h - 0)
    rw [Int.sub_zero, Int.sub_zero]
    exact hfit
  · show ([] ++ ([setT (txt ts) x (0, 0, w, h)].flatten)).Perm S
    rw [hS]
    simp
  clear hyok hy
  obtain ⟨bs, pile, o8, o9, rfl, rfl, hm, hpk, hperm⟩ := hW
  have hbl : bs.length ≤ 24 := by
    have := hperm.length_eq
    have := hX.len
    rw [List.length_append] at *
    omega
  rcases snoc_cases pile with rfl | ⟨pre, ⟨x1, y1, p1⟩, rfl⟩
  · rw [show setP (txt ts) [] = [] from rfl, List.append_nil] at hperm
    have hbl2 : bs.length = ts.length := by rw [← hSl]; exact hperm.length_eq
    walk_at "sv"
    refine ⟨rfl, false, rfl, (fun h => nomatch h), fun _ => ?_⟩
    refine ws_ret (we_lc1D (j := 6) (fun (i : Int) o => o = some (pcD (pieceOf S i))) (.name 10) ?_)
    have hkl : ((kbL bs).map Sum.inl : List Key).length = ts.length := by
      unfold kbL
      rw [List.length_map, List.length_map, hbl2]
    refine wd_lenDO rfl ?_
    rw [hkl]
    refine ⟨_, _, _, rfl, by have := hX.len; omega, rfl, np_of hB (by decide), fun d i hi B' hB' hD => ?_, fun ys hy => ?_⟩
    · rw [Int.toNat_natCast] at hi
      refine wg_name (np_of hB' (by decide)) ?_
      refine wt_yes ⟨(fun _ => wd_dgetG hB' hD rfl ?_), fun h => nomatch h⟩
      walk_at "sn"
      exact ⟨Sum.inl i, _, rfl, due_get hperm hkS hi, rfl⟩
    · rw [Int.toNat_natCast] at hy
      have ey := Sel.map (f := fun i => pcD (pieceOf S i)) hy
      subst ey
      exact q
  · obtain ⟨hmea, hfit1, ab1, ms1, hnum1, hms1⟩ := hpk (x1, y1, p1) (by simp)
    dsimp only at hmea hfit1 hnum1
    have hpre : ∀ e, e ∈ pre → POk (txt ts) e := fun e he => hpk e (List.mem_append_left _ he)
    rw [setP_app] at hperm
    rw [pileM_app] at hm ⊢
    have hM1 : pileM [(x1, y1, p1)] = nodes x1 := rfl
    have hS1 : setP (txt ts) [(x1, y1, p1)] = setT (txt ts) x1 p1 := by
      show [setT (txt ts) x1 p1].flatten = _
      simp
    rw [hM1] at hm ⊢
    rw [hS1] at hperm
    have hpos := nodes_pos x1
    have hpl := pileM_len pre
    rw [List.map_append]
    walk_at "sv"
    refine ⟨rfl, true, by cases pre <;> rfl, fun _ => ?_, (fun h => nomatch h)⟩
    refine ws_opq fun Z' hnx _ _ _ => ?_
    have hml : (pre.map pe3D).length ≤ 1000000 := by
      rw [List.length_map]
      omega
    walk_at "sv"
    refine wd_e (we_pop (y := pe3D (x1, y1, p1)) rfl (by rw [List.length_append, show (List.map pe3D [(x1, y1, p1)]).length = 1 from rfl, Nat.add_sub_cancel, List.getElem?_append_right (Nat.le_refl _), Nat.sub_self]; rfl) ?_)
    rw [show pre.map pe3D ++ List.map pe3D [(x1, y1, p1)] = pre.map pe3D ++ [pe3D (x1, y1, p1)] from rfl, List.dropLast_concat]
    have hok1 := mea_okD hnum1 hmea
    cases hmea with
    | box i R1 hR1 =>
      refine ⟨_, rfl, ?_⟩
      show WG B K _ (.tuple [.tuple [.int i, partD R1, .list []], pcD p1]) _ _
      walk_at "sn"
      refine ws_ifC True False ?_ (fun _ => ?_) fun z => z.elim
      · walk_at "sv"
        refine ⟨rfl, (fun _ => trivial), fun h => ?_⟩
        rw [show PyData.eqv (.list []) (.list []) = true from (eqv_iff rfl rfl).mpr rfl] at h
        cases h
      have hni : i ∉ kbL bs := fun z => by
        have h1 := (hperm.map Prod.fst).nodup_iff.mpr hndS
        rw [setT_int, List.map_append, List.map_append] at h1
        exact (List.nodup_append.mp h1).2.2 i z i (by simp) rfl
      obtain ⟨e1, e2⟩ := pc_put (p := p1) hni
      walk_at "sn"
      refine ⟨by unfold kbL; rw [List.length_map, List.length_map]; show bs.length < 1000000; omega, ?_⟩
      rw [e1, e2]
      refine hnx _ ⟨pileM pre, by omega, bs ++ [(i, p1)], pre, _, _, rfl, rfl, by omega, hpre, ?_⟩
      rw [setT_int] at hperm
      refine List.Perm.trans ?_ hperm
      rw [List.append_assoc]
      exact List.Perm.append_left _ List.perm_append_comm
    | knot k ps ys R1 hR1 hyl hym =>
      rcases numT_cases hnum1 with ⟨i, e2, _⟩ | ⟨k', ps', e2, hg, hn⟩
      · cases e2
      injection e2 with e2
      injection e2 with e3 e4
      injection e4 with e4
      injection e3 with e3
      injection e4 with e4
      subst e4
      subst e3
      have hg2 := of_decide_eq_true hg
      have hkd := hg2.1
      have hpl2 := hg2.2.2
      have hple := numTs_le hn
      have hnum : ∀ q, q ∈ ps → ∃ ab ms, numT ab q = some ms ∧ ms.length ≤ 24 := fun q hq => by
        obtain ⟨ms, g1, g2⟩ := numTs_sub3 hn q hq
        exact ⟨k, ms, g1, by omega⟩
      have hok3 : OkD 60 (.list ys) := (hok1.tup_in _ (by simp)).mono (by omega)
      have hLd : Laid ts ps ys := ⟨hX.tx, hyl, by omega, by omega, hym, hnum⟩
      have hparts := POk.parts hyl hym hfit1 hnum
      rw [setT_knot, ← zz_set hyl] at hperm
      rw [nodes_knot, ← zz_M (f := pcs (txt ts) k ps p1) hyl] at hm hnx
      have hall : ∀ e, e ∈ pre ++ zz ps ys (pcs (txt ts) k ps p1) → POk (txt ts) e := fun e he => by
        rcases List.mem_append.mp he with he | he
        · exact hpre e he
        · exact hparts e he
      have hperm2 : (bs ++ setP (txt ts) (pre ++ zz ps ys (pcs (txt ts) k ps p1))).Perm S := by rw [setP_app]; exact hperm
      have hm2 : pileM (pre ++ zz ps ys (pcs (txt ts) k ps p1)) < pileM pre + (3 + pileM (zz ps ys (pcs (txt ts) k ps p1))) ∧ pileM (pre ++ zz ps ys (pcs (txt ts) k ps p1)) ≤ 100000 := by rw [pileM_app]; omega
      have hzl : (zz ps ys (pcs (txt ts) k ps p1)).length ≤ 100000 := by
        have := pileM_len (zz ps ys (pcs (txt ts) k ps p1))
        omega
      have hnum2 : ∀ q, q ∈ ps → ∃ ab ms, numT ab q = some ms := fun q hq => by
        obtain ⟨ab, ms, e, _⟩ := hnum q hq
        exact ⟨ab, ms, e⟩
      have hFb : k = barS → ∀ q, q ∈ ps → ∀ x, fitT (txt ts) q x (p1.2.2.2 - p1.2.1) ↔ (leastI fun x => fitT (txt ts) q x (p1.2.2.2 - p1.2.1)) ≤ x := fun e => by
        subst e
        exact (beside_parts hnum2 (fitT_bar.mp hfit1)).1
      have hFd : k = dashS → ∀ q, q ∈ ps → ∀ y, fitT (txt ts) q (p1.2.2.1 - p1.1) y ↔ (leastI fun y => fitT (txt ts) q (p1.2.2.1 - p1.1) y) ≤ y := fun e => by
        subst e
        exact (below_parts hnum2 (fitT_dash.mp hfit1)).1
      have hzD := zz_D (f := pcs (txt ts) k ps p1) hyl
      generalize zz ps ys (pcs (txt ts) k ps p1) = Z3 at *
      clear hnum hple hpl2 hg2 hg hn hok1 hparts hR1 hpk hperm hm
      refine ⟨_, rfl, ?_⟩
      show WG B K _ (.tuple [.tuple [.tuple [.str k, .tuple ps], partD R1, .list ys], pcD p1]) _ _
      walk_at "sn"
      show WS B K _ [some (.d x), some (.d (.list (ts.map textD))), some (.d (.int w)), some (.d (.int h)), some (.d y), some (.d (.int t)), some (.ownD ((kbL bs).map Sum.inl) (vbL bs)), some (.own (pre.map pe3D)), some (.d (.tuple [.tuple [.str k, .tuple ps], partD R1, .list ys])), some (.d (pcD p1)), none] _
      refine ws_ifC False True ?_ (fun z => z.elim) fun _ => ?_
      · walk_at "sv"
        refine ⟨rfl, (fun h => ?_), fun _ => trivial⟩
        rw [eqv_nilL h] at hyl
        have := hLd.pos
        rw [← hyl] at this
        exact absurd this (by decide)
      walk_at "sn"
      refine ws_ifC (k = barS) (k = dashS) ?_ (fun hk => ?_) fun hk => ?_
      · have okk : OkD 60 (.str k) := .str (strOk_kind hkd)
        have okd : OkD 60 (.str (Str.ofString "|")) := .str (strOk_kind (.inl rfl))
        walk_at "sv"
        refine ⟨rfl, (fun h => PyData.str.inj ((eqv_iff rfl rfl).mp h)), fun h => ?_⟩
        rcases hkd with rfl | rfl
        · rw [show PyData.eqv (.str barS) (.str (Str.ofString "|")) = true from (eqv_iff rfl rfl).mpr rfl] at h
          cases h
        · rfl
      · have ep : (fun j => pcD (pcs (txt ts) k ps p1 j)) = fun j => pcD (pcB (txt ts) ps p1 j) := by
          funext j
          unfold pcs
          rw [if_pos hk]
        rw [ep] at hzD
        have hF := hFb hk
        clear hFb hFd hnum2
        walk_at "sn"
        refine wd_e (we_listZip ?_)
        walk_at "sn"
        refine ⟨ts, ps, ys, p1, rfl, ⟨hLd, hF⟩, ?_⟩
        refine ⟨_, rfl, ?_⟩
        walk_at "sn"
        refine ⟨ys, _, rfl, by rw [List.length_map, List.length_range, hyl], ?_⟩
        rw [hzD]
        walk_at "sn"
        refine ⟨_, _, rfl, rfl, by rw [List.length_map, List.length_map]; show pre.length + Z3.length ≤ 1000000; have := pileM_len (pre ++ Z3); rw [List.length_append] at this; omega, ?_⟩
        rw [← List.map_append]
        exact hnx _ ⟨_, hm2.1, bs, pre ++ Z3, _, _, rfl, rfl, hm2.2, hall, hperm2⟩
      · have ep : (fun j => pcD (pcs (txt ts) k ps p1 j)) = fun j => pcD (pcH (txt ts) ps p1 j) := by
          funext j
          unfold pcs
          rw [if_neg fun z => dash_ne (hk.symm.trans z)]
        rw [ep] at hzD
        have hF := hFd hk
        clear hFb hFd hnum2
        walk_at "sn"
        refine wd_e (we_listZip ?_)
        walk_at "sn"
        refine ⟨ts, ps, ys, p1, rfl, ⟨hLd, hF⟩, ?_⟩
        refine ⟨_, rfl, ?_⟩
        walk_at "sn"
        refine ⟨ys, _, rfl, by rw [List.length_map, List.length_range, hyl], ?_⟩
        rw [hzD]
        walk_at "sn"
        refine ⟨_, _, rfl, rfl, by rw [List.length_map, List.length_map]; show pre.length + Z3.length ≤ 1000000; have := pileM_len (pre ++ Z3); rw [List.length_append] at this; omega, ?_⟩
        rw [← List.map_append]
        exact hnx _ ⟨_, hm2.1, bs, pre ++ Z3, _, _, rfl, rfl, hm2.2, hall, hperm2⟩

/-! ### in the least height the texts stand in their boxes -/
theorem setTs_in {tx : Int → List Str} {b : Int × Pc} : ∀ {ps : List PyData} {f : Nat → Pc}, b ∈ setTs tx ps f → ∃ (j : Nat) (q : PyData), ps[j]? = some q ∧ b ∈ setT tx q (f j)
  | [], f, h => by rw [setTs_nil] at h; cases h
  | r :: ps, f, h => by
    rw [setTs_cons] at h
    rcases List.mem_append.mp h with h | h
    · exact ⟨0, r, rfl, h⟩
    · obtain ⟨j, q, e, hq⟩ := setTs_in h
      exact ⟨j + 1, q, e, hq⟩
theorem setT_fit {tx : Int → List Str} {x : PyData} {ab : Str} {ns : List Int} (h : numT ab x = some ns) : ∀ p, PcFit tx x p → ∀ b, b ∈ setT tx x p → PcFit tx (.int b.1) b.2 := by
  refine tree_ind (P := fun x => ∀ ab ns, numT ab x = some ns → ∀ p, PcFit tx x p → ∀ b, b ∈ setT tx x p → PcFit tx (.int b.1) b.2) (fun i ab ns e p hp b hb => ?_) (fun k ps hk hl ih ab ns e p hp b hb => ?_) h _ _ h
  · rw [setT_int] at hb
    rw [List.mem_singleton.mp hb]
    exact hp
  · rcases numT_cases e with ⟨i, e2, _⟩ | ⟨k', ps', e2, _, hn⟩
    · cases e2
    · injection e2 with e2
      injection e2 with e3 e4
      injection e4 with e4
      injection e3 with e3
      injection e4 with e4
      subst e4
      subst e3
      rw [setT_knot] at hb
      obtain ⟨j, q, hj, hq⟩ := setTs_in hb
      have hqm := List.mem_of_getElem? hj
      obtain ⟨ms, hm⟩ := numTs_sub hn q hqm
      exact ih q hqm _ _ hm _ (pcs_fit (fun q hq => by obtain ⟨ms, e⟩ := numTs_sub hn q hq; exact ⟨_, ms, e⟩) hp hj) b hq
theorem pieceOf_eq : ∀ {S : List (Int × Pc)} {b : Int × Pc}, (kbL S).Nodup → b ∈ S → pieceOf S b.1 = b.2
  | [], _, _, h => nomatch h
  | c :: S, b, hd, h => by
    have hd2 := List.nodup_cons.mp hd
    unfold pieceOf
    rw [List.find?_cons]
    rcases List.mem_cons.mp h with rfl | h
    · rw [show (b.1 == b.1) = true from beq_iff_eq.mpr rfl]
      rfl
    · rw [show (c.1 == b.1) = false from beq_eq_false_iff_ne.mpr fun z => hd2.1 (z ▸ List.mem_map.mpr ⟨b, h, rfl⟩)]
      exact pieceOf_eq hd2.2 h
def pcsOf (S : List (Int × Pc)) (n : Nat) : List Pc := (ixs 0 n).map (pieceOf S)
theorem pcsOf_at {S : List (Int × Pc)} {n : Nat} {i : Int} (h0 : 0 ≤ i) (h1 : i < n) : (pcsOf S n)[i.toNat]? = some (pieceOf S i) := by
  unfold pcsOf
  rw [List.getElem?_map, ixs_at, if_pos (by omega)]
  show some (pieceOf S (0 + ((i.toNat : Nat) : Int))) = _
  rw [show (0 : Int) + ((i.toNat : Nat) : Int) = i by omega]

/-! ### a page of signs, written sign by sign -/
def setM (M : List (List Nat)) (y x c : Nat) : List (List Nat) := M.set y ((M.getD y []).set x c)
def paintX (M : List (List Nat)) (y x0 : Nat) : List Nat → List (List Nat)
  | [] => M
  | c :: cs => paintX (setM M y x0 c) y (x0 + 1) cs
def paintY (M : List (List Nat)) (y x0 : Nat) : List (List Nat) → List (List Nat)
  | [] => M
  | l :: ls => paintY (paintX M y x0 l) (y + 1) x0 ls
abbrev PBox := (Nat × Nat) × List (List Nat)
def paintB (M : List (List Nat)) : List PBox → List (List Nat)
  | [] => M
  | b :: bs => paintB (paintY M b.1.2 b.1.1 b.2) bs
theorem paintX_snoc {y : Nat} {c : Nat} : ∀ {cs : List Nat} {M : List (List Nat)} {x0 : Nat}, paintX M y x0 (cs ++ [c]) = setM (paintX M y x0 cs) y (x0 + cs.length) c
  | [], M, x0 => rfl
  | d :: cs, M, x0 => by
    show paintX (setM M y x0 d) y (x0 + 1) (cs ++ [c]) = _
    rw [paintX_snoc]
    show setM (paintX (setM M y x0 d) y (x0 + 1) cs) y (x0 + 1 + cs.length) c = setM (paintX (setM M y x0 d) y (x0 + 1) cs) y (x0 + (cs.length + 1)) c
    rw [show x0 + 1 + cs.length = x0 + (cs.length + 1) by omega]
theorem paintY_snoc {x0 : Nat} {l : List Nat} : ∀ {ls : List (List Nat)} {M : List (List Nat)} {y : Nat}, paintY M y x0 (ls ++ [l]) = paintX (paintY M y x0 ls) (y + ls.length) x0 l
  | [], M, y => rfl
  | d :: ls, M, y => by
    show paintY (paintX M y x0 d) (y + 1) x0 (ls ++ [l]) = _
    rw [paintY_snoc]
    show paintX (paintY (paintX M y x0 d) (y + 1) x0 ls) (y + 1 + ls.length) x0 l = paintX (paintY (paintX M y x0 d) (y + 1) x0 ls) (y + (ls.length + 1)) x0 l
    rw [show y + 1 + ls.length = y + (ls.length + 1) by omega]
theorem paintB_snoc {b : PBox} : ∀ {bs : List PBox} {M : List (List Nat)}, paintB M (bs ++ [b]) = paintY (paintB M bs) b.1.2 b.1.1 b.2
  | [], M => rfl
  | d :: bs, M => by
    show paintB (paintY M d.1.2 d.1.1 d.2) (bs ++ [b]) = _
    rw [paintB_snoc]
    rfl
/-- so wide, so high, of signs that are some -/
structure Dm (W H : Nat) (M : List (List Nat)) : Prop where
  h : M.length = H
  w : ∀ row, row ∈ M → row.length = W ∧ ∀ c, c ∈ row → c < 1114112
theorem Dm.row {W H : Nat} {M : List (List Nat)} (h : Dm W H M) {y : Nat} (hy : y < H) : ∃ row, M[y]? = some row ∧ row.length = W ∧ M.getD y [] = row := by
  have e := List.getElem?_eq_getElem (show y < M.length by rw [h.h]; exact hy)
  exact ⟨_, e, (h.w _ (List.mem_of_getElem? e)).1, by rw [List.getD_eq_getElem?_getD, e]; rfl⟩
theorem Dm.set {W H : Nat} {M : List (List Nat)} (h : Dm W H M) {y x c : Nat} (hc : c < 1114112) : Dm W H (setM M y x c) := by
  refine ⟨by unfold setM; rw [List.length_set]; exact h.h, fun row hr => ?_⟩
  unfold setM at hr
  by_cases hy : y < H
  · obtain ⟨r0, e, hl, hd⟩ := h.row hy
    rw [hd] at hr
    have h0 := h.w r0 (List.mem_of_getElem? e)
    rcases List.mem_or_eq_of_mem_set hr with hr | rfl
    · exact h.w row hr
    · refine ⟨by rw [List.length_set]; exact hl, fun d hd => ?_⟩
      rcases List.mem_or_eq_of_mem_set hd with hd | rfl
      · exact h0.2 d hd
      · exact hc
  · rw [List.set_eq_of_length_le (by rw [h.h]; omega)] at hr
    exact h.w row hr
theorem Dm.paintX {W H : Nat} {y : Nat} : ∀ {cs : List Nat} {M : List (List Nat)} {x0 : Nat}, Dm W H M → (∀ c, c ∈ cs → c < 1114112) → Dm W H (SV.paintX M y x0 cs)
  | [], M, x0, h, _ => h
  | c :: cs, M, x0, h, hc => show Dm W H (SV.paintX (setM M y x0 c) y (x0 + 1) cs) from Dm.paintX (h.set (hc c List.mem_cons_self)) fun d hd => hc d (List.mem_cons_of_mem _ hd)
theorem Dm.paintY {W H : Nat} {x0 : Nat} : ∀ {ls : List (List Nat)} {M : List (List Nat)} {y : Nat}, Dm W H M → (∀ l, l ∈ ls → ∀ c, c ∈ l → c < 1114112) → Dm W H (SV.paintY M y x0 ls)
  | [], M, y, h, _ => h
  | l :: ls, M, y, h, hc => show Dm W H (SV.paintY (SV.paintX M y x0 l) (y + 1) x0 ls) from Dm.paintY (h.paintX (hc l List.mem_cons_self)) fun d hd => hc d (List.mem_cons_of_mem _ hd)
theorem Dm.paintB {W H : Nat} : ∀ {bs : List PBox} {M : List (List Nat)}, Dm W H M → (∀ b, b ∈ bs → ∀ l, l ∈ b.2 → ∀ c, c ∈ l → c < 1114112) → Dm W H (SV.paintB M bs)
  | [], M, h, _ => h
  | b :: bs, M, h, hc => show Dm W H (SV.paintB (SV.paintY M b.1.2 b.1.1 b.2) bs) from Dm.paintB (h.paintY (hc b List.mem_cons_self)) fun d hd => hc d (List.mem_cons_of_mem _ hd)
def blankM (W H : Nat) : List (List Nat) := List.replicate H (List.replicate W 32)
theorem blank_dm (W H : Nat) : Dm W H (blankM W H) := by
  refine ⟨List.length_replicate, fun row hr => ?_⟩
  rw [List.eq_of_mem_replicate hr]
  refine ⟨List.length_replicate, fun c hc => ?_⟩
  rw [List.eq_of_mem_replicate hc]
  decide
/-! as an own thing -/
def rowO (row : List Nat) : List OT := row.map fun c => .d (strD c)
def matO (bs : List Addr) (M : List (List Nat)) : List OT := List.zipWith (fun b row => OT.lst b (rowO row)) bs M
theorem matO_blank (W : Nat) : ∀ (bs : List Addr), rowsT (List.replicate W (strD 32)) bs = matO bs (blankM W bs.length)
  | [] => rfl
  | b :: bs => by
    have ih := matO_blank W bs
    have e : blankM W (b :: bs).length = List.replicate W 32 :: blankM W bs.length := rfl
    rw [e]
    show OT.lst b ((List.replicate W (strD 32)).map OT.d) :: rowsT (List.replicate W (strD 32)) bs = OT.lst b (rowO (List.replicate W 32)) :: matO bs (blankM W bs.length)
    rw [ih]
    unfold rowO
    rw [List.map_replicate, List.map_replicate]
theorem matO_len {bs : List Addr} {M : List (List Nat)} (h : bs.length = M.length) : (matO bs M).length = M.length := by
  unfold matO
  rw [List.length_zipWith, h, Nat.min_self]
theorem matO_at {bs : List Addr} {M : List (List Nat)} (h : bs.length = M.length) {y : Nat} {row : List Nat} (e : M[y]? = some row) : ∃ b, bs[y]? = some b ∧ (matO bs M)[y]? = some (.lst b (rowO row)) := by
  have hy := (List.getElem?_eq_some_iff.mp e).1
  have eb := List.getElem?_eq_getElem (show y < bs.length by omega)
  refine ⟨_, eb, ?_⟩
  unfold matO
  rw [List.getElem?_zipWith, eb, e]
theorem matO_put {bs : List Addr} {M : List (List Nat)} (h : bs.length = M.length) {y x c : Nat} {row : List Nat} {b : Addr} (e : M[y]? = some row) (hb : bs[y]? = some b) : (matO bs M).set y (.lst b ((rowO row).set x (.d (strD c)))) = matO bs (setM M y x c) := by
  have hy := (List.getElem?_eq_some_iff.mp e).1
  have hd : M.getD y [] = row := by rw [List.getD_eq_getElem?_getD, e]; rfl
  unfold setM
  rw [hd]
  refine List.ext_getElem? fun i => ?_
  have e3 : (rowO row).set x (.d (strD c)) = rowO (row.set x c) := by unfold rowO; rw [List.map_set]
  rw [e3]
  by_cases ci : y = i
  · subst ci
    rw [List.getElem?_set_self (by rw [matO_len h]; exact hy)]
    unfold matO
    rw [List.getElem?_zipWith, hb, List.getElem?_set_self hy]
  · rw [List.getElem?_set_ne ci]
    unfold matO
    rw [List.getElem?_zipWith, List.getElem?_zipWith, List.getElem?_set_ne ci]
theorem rowO_data (row : List Nat) : datas (rowO row) = row.map strD ∧ areD (rowO row) = true := by
  unfold rowO
  rw [show row.map (fun c => OT.d (strD c)) = (row.map strD).map OT.d by rw [List.map_map]; rfl]
  exact ⟨datas_map_d _, areD_map_d _⟩
def rowPD (row : List Nat) : PyData := .list (row.map strD)
theorem matO_data : ∀ {bs : List Addr} {M : List (List Nat)}, bs.length = M.length → datas (matO bs M) = M.map rowPD ∧ areD (matO bs M) = true
  | [], [], _ => ⟨rfl, rfl⟩
  | [], _ :: _, h => by cases h
  | _ :: _, [], h => by cases h
  | b :: bs, r :: M, h => by
    obtain ⟨h1, h2⟩ := matO_data (bs := bs) (M := M) (Nat.succ.inj h)
    obtain ⟨h3, h4⟩ := rowO_data r
    refine ⟨?_, ?_⟩
    · show PyData.list (datas (rowO r)) :: datas (matO bs M) = rowPD r :: M.map rowPD
      rw [h1, h3]
      rfl
    · show (areD (rowO r) && areD (matO bs M)) = true
      rw [h2, h4]
      rfl
def sgS (c : Nat) : Str := ⟨#[c]⟩
def rowJ (row : List Nat) : Str := Txt.join (Str.ofString "") (row.map sgS)

/-! ### the pieces lie within the whole -/
theorem take_sum_nn : ∀ {ls : List Int}, (∀ l, l ∈ ls → 0 ≤ l) → ∀ k, 0 ≤ (ls.take k).sum ∧ (ls.take k).sum ≤ ls.sum
  | [], _, k => by rw [List.take_nil]; exact ⟨Int.le_refl _, Int.le_refl _⟩
  | l :: ls, h, 0 => by
    have h1 := take_sum_nn (ls := ls) (fun x hx => h x (List.mem_cons_of_mem _ hx)) 0
    have h2 := h l List.mem_cons_self
    rw [List.take_zero] at h1 ⊢
    rw [List.sum_cons]
    have e : ([] : List Int).sum = 0 := rfl
    rw [e] at h1 ⊢
    omega
  | l :: ls, h, k + 1 => by
    have h1 := take_sum_nn (ls := ls) (fun x hx => h x (List.mem_cons_of_mem _ hx)) k
    have h2 := h l List.mem_cons_self
    rw [List.take_succ_cons, List.sum_cons, List.sum_cons]
    omega
theorem spA_in {ls : List Int} (hn : ∀ l, l ∈ ls → 0 ≤ l) {a z : Int} (hs : ls.sum ≤ z - a) (k : Nat) : a ≤ (spA ls a z k).1 ∧ (spA ls a z k).2 ≤ z := by
  have h1 := take_sum_nn hn k
  have h2 := take_sum_nn hn (k + 1)
  unfold spA
  dsimp only
  refine ⟨by omega, ?_⟩
  split <;> omega
theorem leastI_nn {F : Int → Prop} (hp : ∀ x, F x → 1 ≤ x) : 0 ≤ leastI F := by
  unfold leastI
  split
  · rename_i h
    have hc := Classical.choose_spec h
    have := hp _ ((hc (Classical.choose h)).mpr (Int.le_refl _))
    omega
  · exact Int.le_refl _
theorem lsB_nn {tx : Int → List Str} {ps : List PyData} (hn : ∀ q, q ∈ ps → ∃ ab ms, numT ab q = some ms) (h : Int) : ∀ l, l ∈ lsB tx ps h → 0 ≤ l := fun l hl => by
  obtain ⟨q, hq, rfl⟩ := List.mem_map.mp hl
  obtain ⟨ab, ms, e⟩ := hn q hq
  exact leastI_nn fun x hx => (fit_pos tx e _ _ hx).1
theorem lsD_nn {tx : Int → List Str} {ps : List PyData} (hn : ∀ q, q ∈ ps → ∃ ab ms, numT ab q = some ms) (w : Int) : ∀ l, l ∈ lsD tx ps w → 0 ≤ l := fun l hl => by
  obtain ⟨q, hq, rfl⟩ := List.mem_map.mp hl
  obtain ⟨ab, ms, e⟩ := hn q hq
  exact leastI_nn fun x hx => (fit_pos tx e _ _ hx).2
def PcIn (p q : Pc) : Prop := q.1 ≤ p.1 ∧ q.2.1 ≤ p.2.1 ∧ p.2.2.1 ≤ q.2.2.1 ∧ p.2.2.2 ≤ q.2.2.2
theorem pcs_in {tx : Int → List Str} {k : Str} {ps : List PyData} {p : Pc} (hn : ∀ q, q ∈ ps → ∃ ab ms, numT ab q = some ms) (h : PcFit tx (.tuple [.str k, .tuple ps]) p) (j : Nat) : PcIn (pcs tx k ps p j) p := by
  unfold PcFit at h
  rcases fitT_knot.mp h with ⟨rfl, g⟩ | ⟨rfl, g⟩
  · have e := spA_in (a := p.2.1) (z := p.2.2.2) (lsD_nn hn (p.2.2.1 - p.1)) (below_parts hn g).2 j
    unfold pcs
    rw [if_neg dash_ne]
    exact ⟨Int.le_refl _, e.1, Int.le_refl _, e.2⟩
  · have e := spA_in (a := p.1) (z := p.2.2.1) (lsB_nn hn (p.2.2.2 - p.2.1)) (beside_parts hn g).2 j
    unfold pcs
    rw [if_pos rfl]
    exact ⟨e.1, Int.le_refl _, e.2, Int.le_refl _⟩
theorem setT_in {tx : Int → List Str} {x : PyData} {ab : Str} {ns : List Int} (h : numT ab x = some ns) : ∀ p, PcFit tx x p → ∀ b, b ∈ setT tx x p → PcIn b.2 p := by
  refine tree_ind (P := fun x => ∀ ab ns, numT ab x = some ns → ∀ p, PcFit tx x p → ∀ b, b ∈ setT tx x p → PcIn b.2 p) (fun i ab ns e p hp b hb => ?_) (fun k ps hk hl ih ab ns e p hp b hb => ?_) h _ _ h
  · rw [setT_int] at hb
    rw [List.mem_singleton.mp hb]
    exact ⟨Int.le_refl _, Int.le_refl _, Int.le_refl _, Int.le_refl _⟩
  · rcases numT_cases e with ⟨i, e2, _⟩ | ⟨k', ps', e2, _, hn⟩
    · cases e2
    · injection e2 with e2
      injection e2 with e3 e4
      injection e4 with e4
      injection e3 with e3
      injection e4 with e4
      subst e4
      subst e3
      rw [setT_knot] at hb
      obtain ⟨j, q, hj, hq⟩ := setTs_in hb
      have hqm := List.mem_of_getElem? hj
      obtain ⟨ms, hm⟩ := numTs_sub hn q hqm
      have hnum : ∀ q, q ∈ ps → ∃ ab ms, numT ab q = some ms := fun q hq => by obtain ⟨ms, e⟩ := numTs_sub hn q hq; exact ⟨_, ms, e⟩
      have h1 := ih q hqm _ _ hm _ (pcs_fit hnum hp hj) b hq
      have h2 := pcs_in hnum hp j
      exact ⟨Int.le_trans h2.1 h1.1, Int.le_trans h2.2.1 h1.2.1, Int.le_trans h1.2.2.1 h2.2.2.1, Int.le_trans h1.2.2.2 h2.2.2.2⟩
/-- each box has its piece, in which its text stands, within the whole -/
structure Boxed (tx : Int → List Str) (w h : Int) (i : Int) (p : Pc) : Prop where
  l0 : 0 ≤ p.1
  t0 : 0 ≤ p.2.1
  r : p.2.2.1 ≤ w
  b : p.2.2.2 ≤ h
  fit : fitB (tx i) (p.2.2.1 - p.1) (p.2.2.2 - p.2.1)
theorem boxed_of {tx : Int → List Str} {x : PyData} {ns : List Int} {n : Nat} {w h : Int} (hx : numT Str.empty x = some ns) (hp : ns.Perm (ixs 0 n)) (hf : fitT tx x w h) {i : Int} (h0 : 0 ≤ i) (h1 : i < n) : Boxed tx w h i (pieceOf (setT tx x (0, 0, w, h)) i) := by
  have hpf : PcFit tx x (0, 0, w, h) := by
    show fitT tx x (w - 0) (h - 0)
    rw [Int.sub_zero, Int.sub_zero]
    exact hf
  have hkS := (setT_keys (tx := tx) hx (0, 0, w, h)).trans hp
  have hm : i ∈ kbL (setT tx x (0, 0, w, h)) := hkS.mem_iff.mpr (List.mem_map.mpr ⟨i.toNat, List.mem_range.mpr (by omega), by omega⟩)
  have hm2 := pieceOf_mem hm
  have g1 := setT_fit hx _ hpf _ hm2
  have g2 := setT_in hx _ hpf _ hm2
  exact ⟨g2.1, g2.2.1, g2.2.2.1, g2.2.2.2, fitT_int.mp g1⟩

/-! ### a tree that fits, fits in a height by its words -/
def hbs (tx : Int → List Str) (ns : List Int) : Int := (ns.map fun i => 1 + ((tx i).length : Int)).sum
theorem hbs_app (tx : Int → List Str) (a b : List Int) : hbs tx (a ++ b) = hbs tx a + hbs tx b := by unfold hbs; rw [List.map_append, List.sum_append]
theorem hbs_nn (tx : Int → List Str) : ∀ ns : List Int, 0 ≤ hbs tx ns
  | [] => Int.le_refl _
  | i :: ns => by
    have := hbs_nn tx ns
    have e : hbs tx (i :: ns) = 1 + ((tx i).length : Int) + hbs tx ns := by unfold hbs; rw [List.map_cons, List.sum_cons]
    omega
theorem fitB_stabH {ws : List Str} {w h : Int} (q : fitB ws w h) : fitB ws w (min h (1 + (ws.length : Int))) := by
  obtain ⟨h1, h2, h3, h4⟩ := q
  have := lines_len (w := w) ws
  refine ⟨h1, by omega, h3, ?_⟩
  show (((linesW w ws).length : Nat) : Int) ≤ _
  have h4' : (((linesW w ws).length : Nat) : Int) ≤ h := h4
  omega
theorem beside_stabH {tx : Int → List Str} {k : Str} : ∀ {ps : List PyData} {ns : List Int}, numTs k ps = some ns → (∀ p, p ∈ ps → ∀ ab ms, numT ab p = some ms → ∀ w h, fitT tx p w h → fitT tx p w (min h (hbs tx ms))) → ∀ {w h : Int}, fitBeside tx ps w h → fitBeside tx ps w (min h (hbs tx ns))
  | [], ns, _, _, w, h, q => beside_nil.mpr (beside_nil.mp q)
  | p :: ps, ns, hn, ih, w, h, q => by
    obtain ⟨a, b, e1, e2, rfl⟩ := numTs_consI hn
    obtain ⟨x, q1, q2⟩ := beside_cons.mp q
    have k1 := ih p List.mem_cons_self _ _ e2 _ _ q1
    have k2 := beside_stabH e1 (fun r hr => ih r (List.mem_cons_of_mem _ hr)) q2
    have na := hbs_nn tx a
    have nb := hbs_nn tx b
    rw [hbs_app]
    exact beside_cons.mpr ⟨x, fit_mono tx e2 _ _ _ _ k1 (Int.le_refl _) (by omega), beside_mono (fun r hr => by obtain ⟨ms, e⟩ := numTs_sub e1 r hr; exact fit_mono tx e) _ _ _ _ k2 (Int.le_refl _) (by omega)⟩
theorem below_stabH {tx : Int → List Str} {k : Str} : ∀ {ps : List PyData} {ns : List Int}, numTs k ps = some ns → (∀ p, p ∈ ps → ∀ ab ms, numT ab p = some ms → ∀ w h, fitT tx p w h → fitT tx p w (min h (hbs tx ms))) → ∀ {w h : Int}, fitBelow tx ps w h → fitBelow tx ps w (min h (hbs tx ns))
  | [], ns, hn, _, w, h, q => by
    rw [numTs_nil] at hn
    cases hn
    have := below_nil.mp q
    exact below_nil.mpr (by show 0 ≤ min h 0; omega)
  | p :: ps, ns, hn, ih, w, h, q => by
    obtain ⟨a, b, e1, e2, rfl⟩ := numTs_consI hn
    obtain ⟨x, q1, q2⟩ := below_cons.mp q
    have k1 := ih p List.mem_cons_self _ _ e2 _ _ q1
    have k2 := below_stabH e1 (fun r hr => ih r (List.mem_cons_of_mem _ hr)) q2
    rw [hbs_app]
    exact below_cons.mpr ⟨_, k1, below_mono (fun r hr => by obtain ⟨ms, e⟩ := numTs_sub e1 r hr; exact fit_mono tx e) _ _ _ _ k2 (Int.le_refl _) (by omega)⟩
theorem fit_stabH (tx : Int → List Str) {x : PyData} {ab : Str} {ns : List Int} (h : numT ab x = some ns) : ∀ w h, fitT tx x w h → fitT tx x w (min h (hbs tx ns)) := by
  refine tree_ind (P := fun x => ∀ ab ns, numT ab x = some ns → ∀ w h, fitT tx x w h → fitT tx x w (min h (hbs tx ns))) (fun i ab ns e w h q => ?_) (fun k ps hk hl ih ab ns e w h q => ?_) h _ _ h
  · rw [numT_int] at e
    cases e
    have e1 : hbs tx [i] = 1 + ((tx i).length : Int) := by unfold hbs; simp
    rw [e1]
    exact fitT_int.mpr (fitB_stabH (fitT_int.mp q))
  · rcases numT_cases e with ⟨i, e2, _⟩ | ⟨k', ps', e2, _, hn⟩
    · cases e2
    · injection e2 with e2
      injection e2 with e3 e4
      injection e3 with e3
      injection e4 with e4
      injection e4 with e4
      subst e3 e4
      rcases hk with rfl | rfl
      · exact fitT_bar.mpr (beside_stabH hn ih (fitT_bar.mp q))
      · exact fitT_dash.mpr (below_stabH hn ih (fitT_dash.mp q))
theorem hbs_le {ts : List (List Str)} (hT : TxOk ts) : ∀ ns : List Int, hbs (txt ts) ns ≤ 41 * (ns.length : Int)
  | [] => Int.le_refl _
  | i :: ns => by
    have := hbs_le hT ns
    have := (hT.at' i).1
    have e : hbs (txt ts) (i :: ns) = 1 + ((txt ts i).length : Int) + hbs (txt ts) ns := by unfold hbs; rw [List.map_cons, List.sum_cons]
    rw [e, List.length_cons]
    omega
theorem least_le {ts : List (List Str)} (hT : TxOk ts) {x : PyData} {ab : Str} {ns : List Int} (h : numT ab x = some ns) (hn : ns.length ≤ 24) {w t : Int} (ht : TabAt (fitT (txt ts) x) w (some t)) : 1 ≤ t ∧ t ≤ 984 := by
  have f := (ht t).mpr ⟨t, rfl, Int.le_refl _⟩
  have p := (fit_pos (txt ts) h _ _ f).2
  obtain ⟨u, e, hu⟩ := (ht _).mp (fit_stabH (txt ts) h _ _ f)
  cases e
  have := hbs_le hT ns
  omega

/-! ### printed -/
def pbQ (tx : Int → List Str) (i : Int) (p : Pc) : PBox := ((p.1.toNat, p.2.1.toNat), (linesW (p.2.2.1 - p.1) (tx i)).map fun z => z.cps.toList)
noncomputable def pagM (tx : Int → List Str) (x : PyData) (n : Nat) (w h : Int) (m : Nat) : List (List Nat) := paintB (blankM w.toNat h.toNat) ((ixs 0 m).map fun i => pbQ tx i (pieceOf (setT tx x (0, 0, w, h)) i))
theorem ixs_succ (n : Nat) : ixs 0 (n + 1) = ixs 0 n ++ [(n : Int)] := by
  unfold ixs
  rw [List.range_succ, List.map_append]
  show _ ++ [(0 : Int) + (n : Int)] = _
  rw [Int.zero_add]
theorem pagM_succ (tx : Int → List Str) (x : PyData) (n : Nat) (w h : Int) (m : Nat) : pagM tx x n w h (m + 1) = paintY (pagM tx x n w h m) (pieceOf (setT tx x (0, 0, w, h)) m).2.1.toNat (pieceOf (setT tx x (0, 0, w, h)) m).1.toNat ((linesW ((pieceOf (setT tx x (0, 0, w, h)) m).2.2.1 - (pieceOf (setT tx x (0, 0, w, h)) m).1) (tx m)).map fun z => z.cps.toList) := by
  unfold pagM
  rw [ixs_succ, List.map_append, List.map_singleton, paintB_snoc]
  rfl
theorem some_small : ∀ c, c ∈ someS.cps.toList → c < 1114112 := fun c hc => by
  have h2 : someS.cps.toList.all (fun c => decide (c < 1114112)) = true := by decide +kernel
  exact of_decide_eq_true (List.all_eq_true.mp h2 c hc)
theorem line_small {ws : List Str} (hw : ∀ v, v ∈ ws → IsWord v) {w : Int} {f : Str} (hf : f ∈ linesW w ws) : ∀ c, c ∈ f.cps.toList → c < 1114112 := fun c hc => by
  have h := (lines_ok hw f hf).ok
  unfold PyData.strOk at h
  rw [Array.all_eq_true'] at h
  exact of_decide_eq_true (h c (Array.mem_toList_iff.mp hc))
theorem pagM_dm {ts : List (List Str)} (hT : TxOk ts) (x : PyData) (n : Nat) (w h : Int) (m : Nat) : Dm w.toNat h.toNat (pagM (txt ts) x n w h m) := by
  refine Dm.paintB (blank_dm _ _) fun b hb l hl c hc => ?_
  obtain ⟨i, _, rfl⟩ := List.mem_map.mp hb
  obtain ⟨z, hz, rfl⟩ := List.mem_map.mp hl
  exact line_small (hT.at' i).2 hz c hc
theorem sg_sum : ∀ row : List Nat, ((row.map sgS).map fun z => z.length).sum = row.length
  | [] => rfl
  | c :: row => by
    rw [List.map_cons, List.map_cons, List.sum_cons, sg_sum row, List.length_cons]
    show 1 + _ = _
    omega
theorem enL_mem2 {α : Type} {as : List α} {v : Nat × α} (h : v ∈ enL as) : v.2 ∈ as := by
  obtain ⟨k, hk⟩ := List.getElem?_of_mem h
  exact List.mem_of_getElem? (enL_at hk).2
theorem enL_snd2 {α : Type} {as : List α} : (enL as).map Prod.snd = as := by
  refine List.ext_getElem? fun i => ?_
  rw [List.getElem?_map]
  by_cases c : i < as.length
  · have e1 := List.getElem?_eq_getElem (show i < (enL as).length by rw [enL_len]; exact c)
    rw [e1]
    exact (enL_at e1).2.symm
  · rw [List.getElem?_eq_none (by rw [enL_len]; omega), List.getElem?_eq_none (by omega)]
    rfl
def G_printed : GF := fun ls Po _ => ∃ (x : PyData) (ts : List (List Str)) (ns : List Int) (w h : Int), ls = [.d x, .d (.list (ts.map textD)), .d (.int w)] ∧ (TrTx x ts ns ∧ ns.Perm (ixs 0 ts.length) ∧ TabAt (fitT (txt ts) x) w (some h) ∧ w ≤ 400) ∧ Po (.new ((pagM (txt ts) x ts.length w h ts.length).map fun row => .str (rowJ row))) []
theorem ok_printed (T : Txt K mg) : FnOk P w K mg base (L2.CX P w) 64 T.f_printed T.fd_printed ["tree", "texts", "wide"] (SpG K none G_printed) := by
  refine T.d_printed.F.okX sc_printed (SpG.len (n := 3) fun ls Po Pe h => by obtain ⟨_, _, _, _, _, rfl, _⟩ := h; rfl) (fun cdv A outer s H vs Q E hr h => ⟨_, (pss_cons (ps_set (i := 3) sc_printed.nd rfl (.inl rfl) (pe_call (ok_least_high T) hr (by rfl) T.d_least_high.g T.d_least_high.kp T.d_least_high.b .nil (passes_call (takes_of rfl rfl rfl rfl) fun _ _ _ _ h => h) (pa_cons (pv 0) (pa_cons (pv 1) (pa_cons (pv 2) pa_nil)))))
 (pss_cons (ps_if (PW.pt (pw_or (pt_cmp (pc_isN (pv 3))) (pw_or1 (pt_cmpR op_gt (pv 2) (pe_glob (v := .int 400) rfl T.c_MOST_WIDE ⟨_, rfl⟩) (nomark _))))) (pss_one (p_raise (takes_of rfl rfl rfl rfl) (pmk_own PySem.F.excBase_ValueError T.NoRoom.x T.NoRoom.g T.NoRoom.k (raises_own T.NoRoom.b T.NoRoom.t) (by exact rfl)))) pss_nil)
 (pss_cons (ps_setLc (i := 4) (own := [("y", 6)]) (g := _) (tt := _) rfl sc_printed.nd rfl rfl (sw_true rfl rfl rfl (by decide +kernel)) (pi_range1 (by rfl) T.b_range (pa_cons (pv 3) pa_nil)) (blkOk_by (N := N_printed) (sc := defScope s_printed) (by decide +kernel)) (fun _ _ _ _ _ => (pg_name (i := 6) sc_printed.nd rfl (Or.inl rfl))) (fun _ _ _ _ _ => pts_nil) (fun _ _ _ _ _ => (pe_lc (own := [("x", 5)]) (g := _) (tt := _) (by rfl) sc_printed.nd (pi_range1 (by rfl) T.b_range (pa_cons (pv 2) pa_nil)) (blkOk_by (by kernel_rfl)) (fun _ _ _ _ _ => (pg_name (i := 5) sc_printed.nd rfl (Or.inl rfl))) (fun _ _ _ _ _ => pts_nil) (fun _ _ _ _ _ => pe_str))))
 (pss_cons (ps_for (passes_of rfl) rfl (pi_zip (by rfl) T.b_zip (pa_cons (pe_call (ok_setting T) (hr.mono (by decide)) (by rfl) T.d_setting.g T.d_setting.kp T.d_setting.b .nil (passes_call (takes_of rfl rfl rfl rfl) fun _ _ _ _ h => h) (pa_cons (pv 0) (pa_cons (pv 1) (pa_cons (pv 2) (pa_cons (pv 3) pa_nil))))) (pa_cons (pv 1) pa_nil))) (k_gTup (n := 2) K rfl rfl (pgs_cons (pg_name (i := 7) sc_printed.nd rfl (Or.inl rfl)) (pgs_cons (pg_name (i := 8) sc_printed.nd rfl (Or.inl rfl)) pgs_nil))) (pss_one (ps_for (passes_of rfl) rfl (pi_enum (by rfl) T.b_enumerate (pa_cons (pe_call (ok_lines T) (hr.mono (by decide)) (by rfl) T.d_lines.g T.d_lines.kp T.d_lines.b .nil (passes_call (takes_of rfl rfl rfl rfl) fun _ _ _ _ h => h) (pa_cons (pv 8) (pa_cons (pe_op op_sub (pe_ix (k_ix K) (pv 7) pe_int (fun _ _ => rfl)) (pe_ix (k_ix K) (pv 7) pe_int (fun _ _ => rfl))) pa_nil))) pa_nil)) (k_gTup (n := 2) K rfl rfl (pgs_cons (pg_name (i := 6) sc_printed.nd rfl (Or.inl rfl)) (pgs_cons (pg_name (i := 9) sc_printed.nd rfl (Or.inl rfl)) pgs_nil))) (pss_one (ps_for (passes_of rfl) rfl (pi_enumS (by rfl) T.b_enumerate (pa_cons (pv 9) pa_nil)) (k_gTup (n := 2) K rfl rfl (pgs_cons (pg_name (i := 5) sc_printed.nd rfl (Or.inl rfl)) (pgs_cons (pg_name (i := 10) sc_printed.nd rfl (Or.inl rfl)) pgs_nil))) (pss_one (ps_asg (pv 10) (pg_sub (pe_ix (k_ix K) (pv 4) (pe_op (k_plus K) (pe_ix (k_ix K) (pv 7) pe_int (fun _ _ => rfl)) (pv 6)) (fun _ _ => rfl)) (pe_op (k_plus K) (pe_ix (k_ix K) (pv 7) pe_int (fun _ _ => rfl)) (pv 5)) set_list))))))))
 (pss_one (ps_ret (pe_lc (own := [("row", 11)]) (g := _) (tt := _) (by rfl) sc_printed.nd (k_piL K rfl (pv 4)) (blkOk_by (N := N_printed) (sc := defScope s_printed) (by decide +kernel)) (fun _ _ _ _ _ => (pg_name (i := 11) sc_printed.nd rfl (Or.inl rfl))) (fun _ _ _ _ _ => pts_nil) (fun _ _ _ _ _ => (k_join K rfl pe_str (pv 11)))))))))), rd_of h fun B ls Po Pe hB hG hE => ?_⟩)
  obtain ⟨x, ts, ns, w, h, rfl, ⟨hX, hp, htab, hw⟩, q⟩ := hG
  have hT := hX.tx
  have hx := hX.num
  have hnl := hX.good.le
  have htl := hX.len
  obtain ⟨hh1, hh2⟩ := least_le hT hx hnl htab
  have hfit := (htab h).mpr ⟨h, rfl, Int.le_refl _⟩
  have hw1 := (fit_pos (txt ts) hx _ _ hfit).1
  show WS B K _ [some (.d x), some (.d (.list (ts.map textD))), some (.d (.int w)), none, none, none, none, none, none, none, none, none] _
  walk_at "sn"
  refine ⟨_, fun _ => False, rfl, ⟨x, ts, ns, w, rfl, hX, fun o ho => ⟨_, rfl, ?_⟩⟩, fun C h => h.elim⟩
  have eo := ho.uniq htab
  subst eo
  show WS B K _ [some (.d x), some (.d (.list (ts.map textD))), some (.d (.int w)), some (.d (.int h)), none, none, none, none, none, none, none, none] _
  refine ws_seq ?_
  refine ws_ifC False True ?_ (fun z => z.elim) fun _ => ?_
  · walk_at "sv"
    exact ⟨rfl, (fun hz => by have hz := of_decide_eq_true hz; omega), fun _ => trivial⟩
  refine ws_next ?_
  refine ws_seq (ws_asgO (np_of hB (by decide)) (we_lc1N (List.replicate w.toNat (strD 32)) (.name 6) ?_))
  walk_at "sn"
  refine ⟨fun a ha B' hB' => ?_, fun D bs hbl => ?_⟩
  · refine wg_name (np_of hB' (by decide)) ?_
    refine we_lc1 (fun k o => o = some (strD 32)) (.name 5) ?_
    walk_at "sn"
    refine ⟨fun j hj B2 hB2 => ?_, fun ys hy => ?_⟩
    · walk_at "sn"
      exact congrArg some (congrArg PyData.str (show Str.ofString " " = ⟨#[32]⟩ by decide +kernel))
    have ey := Sel.map (f := fun k : Int => strD 32) hy
    subst ey
    rw [List.map_const', ixs_len]
  refine ⟨_, rfl, ?_⟩
  rw [matO_blank, hbl]
  show WS B K _ [some (.d x), some (.d (.list (ts.map textD))), some (.d (.int w)), some (.d (.int h)), some (.deep (.lst D (matO bs (pagM (txt ts) x ts.length w h 0)))), none, none, none, none, none, none, none] _
  obtain ⟨S, hS⟩ : ∃ S, S = setT (txt ts) x (0, 0, w, h) := ⟨_, rfl⟩
  have hbox : ∀ i : Int, 0 ≤ i → i < ts.length → Boxed (txt ts) w h i (pieceOf S i) := fun i h0 h1 => by rw [hS]; exact boxed_of hx hp hfit h0 h1
  have hdm : ∀ m, Dm w.toNat h.toNat (pagM (txt ts) x ts.length w h m) := fun m => pagM_dm hT x ts.length w h m
  have hsucc : ∀ m : Nat, pagM (txt ts) x ts.length w h (m + 1) = paintY (pagM (txt ts) x ts.length w h m) (pieceOf S m).2.1.toNat (pieceOf S m).1.toNat ((linesW ((pieceOf S m).2.2.1 - (pieceOf S m).1) (txt ts m)).map fun z => z.cps.toList) := fun m => by rw [hS]; exact pagM_succ _ _ _ _ _ _
  refine ws_seq ?_
  refine ws_forZip pcD textD ?_
  walk_at "sn"
  refine ⟨_, fun _ => False, rfl, ⟨x, ts, ns, w, h, rfl, ⟨hX, hp, hfit⟩, ?_⟩, fun C h => h.elim⟩
  rw [← hS]
  refine ⟨_, rfl, (ixs 0 ts.length).map (pieceOf S), by rw [List.map_map]; rfl, ?_⟩
  walk_at "sn"
  refine ⟨fun pre ρ' => ∃ (bs : List Addr) (o5 o6 o7 o8 o9 o10 : Option L), bs.length = h.toNat ∧ ρ' = [some (.d x), some (.d (.list (ts.map textD))), some (.d (.int w)), some (.d (.int h)), some (.deep (.lst D (matO bs (pagM (txt ts) x ts.length w h pre.length)))), o5, o6, o7, o8, o9, o10, none], ⟨bs, _, _, _, _, _, _, hbl, rfl⟩, fun pre pr post ρ2 ha hI => ?_, fun ρ2 hI => ?_⟩
  · obtain ⟨bs, o5, o6, o7, o8, o9, o10, hbl, rfl⟩ := hI
    have hk : pre.length < ts.length ∧ pr = (pieceOf S (pre.length : Int), txt ts (pre.length : Int)) := by
      have e : ((ixs 0 ts.length).map (pieceOf S)).zip ts = pre ++ pr :: post := ha
      have e1 : (((ixs 0 ts.length).map (pieceOf S)).zip ts)[pre.length]? = some pr := by rw [e, List.getElem?_append_right (Nat.le_refl _), Nat.sub_self]; rfl
      have hl : pre.length < ts.length := by
        have := (List.getElem?_eq_some_iff.mp e1).1
        rw [List.length_zip, List.length_map, ixs_len, Nat.min_self] at this
        exact this
      refine ⟨hl, ?_⟩
      have e2 : ((ixs 0 ts.length).map (pieceOf S))[pre.length]? = some (pieceOf S (0 + (pre.length : Int))) := by rw [List.getElem?_map, ixs_at, if_pos hl]; rfl
      have e3 : (((ixs 0 ts.length).map (pieceOf S)).zip ts)[pre.length]? = some (pieceOf S (0 + (pre.length : Int)), ts[pre.length]) := List.getElem?_zip_eq_some.mpr ⟨e2, List.getElem?_eq_getElem hl⟩
      rw [e3] at e1
      rw [← Option.some.inj e1, Int.zero_add]
      unfold txt
      rw [List.getD_eq_getElem?_getD, Int.toNat_natCast, List.getElem?_eq_getElem hl]
      rfl
    obtain ⟨hk1, rfl⟩ := hk
    have hB1 := hbox (pre.length : Int) (by omega) (by omega)
    have hs1 := hsucc pre.length
    have hd0 := hdm pre.length
    have hd1 := hdm (pre.length + 1)
    have hww := hT.at' (pre.length : Int)
    have hpl1 : (pre ++ [(pieceOf S (pre.length : Int), txt ts (pre.length : Int))]).length = pre.length + 1 := by simp
    obtain ⟨⟨l0, t0, r0, b0⟩, hpc⟩ : ∃ p, p = pieceOf S (pre.length : Int) := ⟨_, rfl⟩
    show WG B K _ (.tuple [pcD (pieceOf S (pre.length : Int)), textD (txt ts (pre.length : Int))]) _ _
    walk_at "sn"
    refine ws_opq fun Z' hnx _ _ _ => ?_
    have hnx2 : ∀ (bs : List Addr) (o5 o6 o7 o8 o9 o10 : Option L), bs.length = h.toNat → Z'.nx [some (.d x), some (.d (.list (ts.map textD))), some (.d (.int w)), some (.d (.int h)), some (.deep (.lst D (matO bs (pagM (txt ts) x ts.length w h (pre.length + 1))))), o5, o6, o7, o8, o9, o10, none] := fun bs o5 o6 o7 o8 o9 o10 e => hnx _ ⟨bs, o5, o6, o7, o8, o9, o10, e, by rw [hpl1]⟩
    clear hnx hdm hsucc hbox ha hfit hX hp htab
    generalize pagM (txt ts) x ts.length w h pre.length = M0 at hs1 hd0 ⊢
    generalize pagM (txt ts) x ts.length w h (pre.length + 1) = M2 at hs1 hd1 hnx2
    rw [← hpc] at hs1 hB1 ⊢
    obtain ⟨g1, g2, g3, g4, f1, f2, f3, f4⟩ := hB1
    dsimp only at g1 g2 g3 g4 f1 f2 f3 f4 hs1
    generalize txt ts (pre.length : Int) = wd at hs1 hww f3 f4 ⊢
    show WS B K _ [some (.d x), some (.d (.list (ts.map textD))), some (.d (.int w)), some (.d (.int h)), some (.deep (.lst D (matO bs M0))), o5, o6, some (.d (.tuple [.int l0, .int t0, .int r0, .int b0])), some (.d (textD wd)), o9, o10, none] _
    refine ws_forEn PyData.str ?_
    walk_at "sn"
    obtain ⟨LL, hLL⟩ : ∃ LL, LL = linesW (r0 - l0) wd := ⟨_, rfl⟩
    have hfitL : ∀ f, f ∈ LL → (f.length : Int) ≤ r0 - l0 := fun f hf => by rw [hLL] at hf; exact lines_fit f3 f hf
    have hsmL : ∀ f, f ∈ LL → ∀ c, c ∈ f.cps.toList → c < 1114112 := fun f hf => by rw [hLL] at hf; exact line_small hww.2 hf
    have hlenL : (LL.length : Int) ≤ b0 - t0 := by rw [hLL]; exact f4
    refine ⟨_, fun _ => False, rfl, ⟨textD wd, r0 - l0, rfl, shorts_text hww.2, .inr ⟨wd, rfl, hww.2, by omega, fun _ => ⟨_, rfl, LL, by rw [hLL], ?_⟩, fun ⟨v, hv, hn⟩ => absurd (f3 v hv) hn⟩⟩, fun C h => h.elim⟩
    rw [← hLL] at hs1
    clear hLL f4
    refine ⟨fun pre2 ρ' => ∃ (bs : List Addr) (o5 o6 o9 o10 : Option L), bs.length = h.toNat ∧ ρ' = [some (.d x), some (.d (.list (ts.map textD))), some (.d (.int w)), some (.d (.int h)), some (.deep (.lst D (matO bs (paintY M0 t0.toNat l0.toNat ((pre2.map Prod.snd).map fun z => z.cps.toList))))), o5, o6, some (.d (.tuple [.int l0, .int t0, .int r0, .int b0])), some (.d (textD wd)), o9, o10, none], ⟨bs, _, _, _, _, hbl, rfl⟩, fun pre2 u post2 ρ3 hu hI2 => ?_, fun ρ3 hI2 => ?_⟩
    · obtain ⟨bs, o5, o6, o9, o10, hbl, rfl⟩ := hI2
      obtain ⟨j, line⟩ := u
      obtain ⟨e1, e2, e3⟩ := enL_in hu
      dsimp only at e1 e2
      have hlm := List.mem_of_getElem? e2
      have hjl := (List.getElem?_eq_some_iff.mp e2).1
      have hll := hfitL line hlm
      have hsm := hsmL line hlm
      have hdY : Dm w.toNat h.toNat (paintY M0 t0.toNat l0.toNat ((pre2.map Prod.snd).map fun z => z.cps.toList)) := hd0.paintY fun l hl c hc => by
        obtain ⟨z, hz, rfl⟩ := List.mem_map.mp hl
        obtain ⟨v, hv, rfl⟩ := List.mem_map.mp hz
        exact hsmL v.2 (enL_mem2 (by rw [hu]; exact List.mem_append_left _ hv)) c hc
      have hsn : paintY M0 t0.toNat l0.toNat (((pre2 ++ [(j, line)]).map Prod.snd).map fun z => z.cps.toList) = paintX (paintY M0 t0.toNat l0.toNat ((pre2.map Prod.snd).map fun z => z.cps.toList)) (t0.toNat + pre2.length) l0.toNat line.cps.toList := by
        rw [List.map_append, List.map_append]
        show paintY _ _ _ (_ ++ [line.cps.toList]) = _
        rw [paintY_snoc, List.length_map, List.length_map]
      show WG B K _ (.tuple [.int j, .str line]) _ _
      walk_at "sn"
      refine ws_opq fun Z2 hnx3 _ _ _ => ?_
      have hnx4 : ∀ (bs : List Addr) (o5 o6 o9 o10 : Option L), bs.length = h.toNat → Z2.nx [some (.d x), some (.d (.list (ts.map textD))), some (.d (.int w)), some (.d (.int h)), some (.deep (.lst D (matO bs (paintX (paintY M0 t0.toNat l0.toNat ((pre2.map Prod.snd).map fun z => z.cps.toList)) (t0.toNat + pre2.length) l0.toNat line.cps.toList)))), o5, o6, some (.d (.tuple [.int l0, .int t0, .int r0, .int b0])), some (.d (textD wd)), o9, o10, none] := fun bs o5 o6 o9 o10 e => hnx3 _ ⟨bs, o5, o6, o9, o10, e, by rw [hsn]⟩
      clear hnx3 hsn hu e2 e3 hnx2
      generalize paintY M0 t0.toNat l0.toNat ((pre2.map Prod.snd).map fun z => z.cps.toList) = M1 at hdY hnx4 ⊢
      refine ws_forEnS ?_
      walk_at "sn"
      refine ⟨fun pre3 ρ' => ∃ (bs : List Addr) (o5 o10 : Option L), bs.length = h.toNat ∧ ρ' = [some (.d x), some (.d (.list (ts.map textD))), some (.d (.int w)), some (.d (.int h)), some (.deep (.lst D (matO bs (paintX M1 (t0.toNat + pre2.length) l0.toNat (pre3.map Prod.snd))))), o5, some (.d (.int j)), some (.d (.tuple [.int l0, .int t0, .int r0, .int b0])), some (.d (textD wd)), some (.d (.str line)), o10, none], ⟨bs, _, _, hbl, rfl⟩, fun pre3 u post3 ρ4 hu hI3 => ?_, fun ρ4 hI3 => ?_⟩
      · obtain ⟨bs, o5, o10, hbl, rfl⟩ := hI3
        obtain ⟨i, c⟩ := u
        obtain ⟨e4, e5, e6⟩ := enL_in hu
        dsimp only at e4 e5
        have hil := (List.getElem?_eq_some_iff.mp e5).1
        have hcs := hsm c (List.mem_of_getElem? e5)
        have hll2 : (line.cps.toList.length : Int) ≤ r0 - l0 := by rw [Array.length_toList]; exact hll
        have hdX : Dm w.toNat h.toNat (paintX M1 (t0.toNat + pre2.length) l0.toNat (pre3.map Prod.snd)) := hdY.paintX fun d hd => by
          obtain ⟨v, hv, rfl⟩ := List.mem_map.mp hd
          exact hsm v.2 (enL_mem2 (by rw [hu]; exact List.mem_append_left _ hv))
        have hsn : paintX M1 (t0.toNat + pre2.length) l0.toNat ((pre3 ++ [(i, c)]).map Prod.snd) = setM (paintX M1 (t0.toNat + pre2.length) l0.toNat (pre3.map Prod.snd)) (t0.toNat + pre2.length) (l0.toNat + pre3.length) c := by
          rw [List.map_append]
          show paintX _ _ _ (_ ++ [c]) = _
          rw [paintX_snoc, List.length_map]
        clear hu e6
        generalize paintX M1 (t0.toNat + pre2.length) l0.toNat (pre3.map Prod.snd) = M3 at hdX hsn ⊢
        obtain ⟨row, hr1, hr2, hr3⟩ := hdX.row (y := t0.toNat + pre2.length) (by omega)
        have hbM : bs.length = M3.length := by rw [hbl, hdX.h]
        obtain ⟨b, hb1, hb2⟩ := matO_at hbM hr1
        have hb3 : atI (matO bs M3) (t0 + (j : Int)) = some (.lst b (rowO row)) := by
          have := atI_nat hb2
          rw [show (((t0.toNat + pre2.length : Nat)) : Int) = t0 + (j : Int) by omega] at this
          exact this
        have hput := matO_put hbM (x := l0.toNat + pre3.length) (c := c) hr1 hb1
        show WG B K _ (.tuple [.int i, .str ⟨#[c]⟩]) _ _
        refine wg_tup rfl (wgs_cons (wg_name (np_of hB (by decide)) (wgs_cons (wg_name (np_of hB (by decide)) (wgs_nil ?_)))))
        show WS B K _ [some (.d x), some (.d (.list (ts.map textD))), some (.d (.int w)), some (.d (.int h)), some (.deep (.lst D (matO bs M3))), some (.d (.int i)), some (.d (.int j)), some (.d (.tuple [.int l0, .int t0, .int r0, .int b0])), some (.d (textD wd)), some (.d (.str line)), some (.d (.str ⟨#[c]⟩)), none] _
        refine ws_setItemP ?_
        refine wd_var rfl ?_
        refine we_ixP ?_
        refine we_ptr (t := .lst D (matO bs M3)) rfl ?_
        refine ⟨D, rfl, ?_⟩
        walk_at "sn"
        refine ⟨4, _, [], _, _, _, rfl, rfl, .inl rfl, hb3, b, rfl, ?_⟩
        walk_at "sn"
        have hrl : (rowO row).length = w.toNat := by unfold rowO; rw [List.length_map]; exact hr2
        refine ⟨4, .lst D (matO bs M3), [t0.toNat + pre2.length], rowO row, l0 + (i : Int), l0.toNat + pre3.length, np_of hB (by decide), rfl, ?_, rfl, ?_, bs, some (.d (.int i)), some (.d (.str ⟨#[c]⟩)), hbl, ?_⟩
        · show (match (matO bs M3)[t0.toNat + pre2.length]? with | some u => OT.at [] u | none => none) = _
          rw [hb2]
          rfl
        · rw [hrl, show l0 + (i : Int) = ((l0.toNat + pre3.length : Nat) : Int) by omega]
          exact ixN_of (by omega)
        · rw [hsn, ← hput]
          have hpt : OT.put [t0.toNat + pre2.length] (.lst D (matO bs M3)) (.lst b ((rowO row).set (l0.toNat + pre3.length) (.d (strD c)))) = .lst D ((matO bs M3).set (t0.toNat + pre2.length) (.lst b ((rowO row).set (l0.toNat + pre3.length) (.d (strD c))))) := by
            show (match (matO bs M3)[t0.toNat + pre2.length]? with | some u => OT.lst D ((matO bs M3).set (t0.toNat + pre2.length) (.lst b ((rowO row).set (l0.toNat + pre3.length) (.d (strD c))))) | none => _) = _
            rw [hb2]
          rw [← hpt]
          rfl
      · obtain ⟨bs, o5, o10, hbl, rfl⟩ := hI3
        rw [enL_snd2]
        exact hnx4 bs _ _ _ _ hbl
    · obtain ⟨bs, o5, o6, o9, o10, hbl, rfl⟩ := hI2
      rw [enL_snd2, ← hs1]
      exact hnx2 bs _ _ _ _ _ _ hbl
  · obtain ⟨bs, o5, o6, o7, o8, o9, o10, hbl, rfl⟩ := hI
    rw [List.length_zip, List.length_map, ixs_len, Nat.min_self] at *
    have hd0 := hdm ts.length
    obtain ⟨h1, h2⟩ := matO_data (bs := bs) (M := pagM (txt ts) x ts.length w h ts.length) (by rw [hbl, hd0.h])
    show WS B K _ [some (.d x), some (.d (.list (ts.map textD))), some (.d (.int w)), some (.d (.int h)), some (.deep (.lst D (matO bs (pagM (txt ts) x ts.length w h ts.length)))), o5, o6, o7, o8, o9, o10, none] _
    refine ws_toD (j := 4) rfl (np_of hB (by decide)) h2 ?_
    rw [show (OT.lst D (matO bs (pagM (txt ts) x ts.length w h ts.length))).data = .list ((pagM (txt ts) x ts.length w h ts.length).map rowPD) from congrArg PyData.list h1]
    generalize pagM (txt ts) x ts.length w h ts.length = M at hd0 q ⊢
    show WS B K _ [some (.d x), some (.d (.list (ts.map textD))), some (.d (.int w)), some (.d (.int h)), some (.d (.list (M.map rowPD))), o5, o6, o7, o8, o9, o10, none] _
    refine ws_ret (we_lcL rowPD (fun row o => o = some (.str (rowJ row))) (.name 11) ?_)
    walk_at "sn"
    have hMl := hd0.h
    refine ⟨by show M.length ≤ 1000000; omega, fun row hr B' hB' => ?_, fun ys hy => ?_⟩
    · have hrw := (hd0.w row hr).1
      refine wg_name (np_of hB' (by decide)) ?_
      walk_at "sn"
      refine ⟨row.map sgS, by unfold rowPD; rw [List.map_map]; rfl, ?_, rfl⟩
      rw [sg_sum, show (Str.ofString "").length = 0 by decide +kernel]
      omega
    have ey := Sel.map (f := fun row => PyData.str (rowJ row)) hy
    subst ey
    exact q

/-! ### _law_due: the page, laid sign by sign -/
theorem txt_at2 {ts : List (List Str)} {i : Int} (i0 : 0 ≤ i) (i1 : i < (ts.length : Int)) : atI (ts.map textD) i = some (textD (txt ts i)) := by
  obtain ⟨j, rfl⟩ := Int.eq_ofNat_of_zero_le i0
  refine atI_nat ?_
  rw [List.getElem?_map, List.getElem?_eq_getElem (by omega)]
  unfold txt
  rw [List.getD_eq_getElem?_getD, Int.toNat_natCast, List.getElem?_eq_getElem (by omega)]
  rfl
def G_law_due : GF := fun ls Po _ => ∃ (x : PyData) (ts : List (List Str)) (ns : List Int) (w h : Int), ls = [.d (.list (((ixs 0 ts.length).map (pieceOf (setT (txt ts) x (0, 0, w, h)))).map pcD)), .d (.list (ts.map textD)), .d (.int w), .d (.int h)] ∧ (TrTx x ts ns ∧ ns.Perm (ixs 0 ts.length) ∧ fitT (txt ts) x w h ∧ w ≤ 400 ∧ 1 ≤ h ∧ h ≤ 984) ∧ Po (.new ((pagM (txt ts) x ts.length w h ts.length).map fun row => .str (rowJ row))) []
theorem ok_law_due (T : Txt K mg) : FnOk P w K mg base CX0 4 T.f_law_due T.fd_law_due ["boxes", "texts", "wide", "high"] (SpG K none G_law_due) := by
  refine T.d_law_due.F.ok sc_law_due (SpG.len (n := 4) fun ls Po Pe h => by obtain ⟨_, _, _, _, _, rfl, _⟩ := h; rfl) (fun cdv A outer s H vs Q E hr h => ⟨_, (pss_cons (ps_setLc (i := 4) (own := [("y", 5)]) (g := _) (tt := _) rfl sc_law_due.nd rfl rfl (sw_true rfl rfl rfl (by decide +kernel)) (pi_range1 (by rfl) T.b_range (pa_cons (pv 3) pa_nil)) (blkOk_by (N := N_law_due) (sc := defScope s_law_due) (by decide +kernel)) (fun _ _ _ _ _ => (pg_name (i := 5) sc_law_due.nd rfl (Or.inl rfl))) (fun _ _ _ _ _ => pts_nil) (fun _ _ _ _ _ => (pe_op op_rep (pe_lst (pa_cons pe_str pa_nil)) (pv 2))))
 (pss_cons (ps_for PassesOwn.never rfl (pi_range1 (by rfl) T.b_range (pa_cons (pe_callB (k_len K) (by rfl) T.b_len PySem.boot_len (pa_cons (pv 1) pa_nil)) pa_nil)) (pg_name (i := 6) sc_law_due.nd rfl (Or.inl rfl)) (pss_cons (ps_asg (pe_ix (k_ix K) (pv 0) (pv 6) (fun _ _ => rfl)) (k_gTup (n := 4) K rfl rfl (pgs_cons (pg_name (i := 7) sc_law_due.nd rfl (Or.inl rfl)) (pgs_cons (pg_name (i := 8) sc_law_due.nd rfl (Or.inl rfl)) (pgs_cons (pg_name (i := 9) sc_law_due.nd rfl (Or.inl rfl)) (pgs_cons (pg_name (i := 10) sc_law_due.nd rfl (Or.inl rfl)) pgs_nil))))))
 (pss_cons (ps_set (i := 11) sc_law_due.nd rfl (.inl rfl) (pe_call (ok_lines T) hr (by rfl) T.d_lines.g T.d_lines.kp T.d_lines.b .nil passL (pa_cons (pe_callTy (k_listOf K) (by rfl) T.b_list (by decide +kernel) (pa_cons (pe_ix (k_ix K) (pv 1) (pv 6) (fun _ _ => rfl)) pa_nil)) (pa_cons (pe_op op_sub (pv 9) (pv 7)) pa_nil))))
 (pss_cons (ps_if (PW.pt (pw_or (pt_cmpR op_gt (pe_callB (k_len K) (by rfl) T.b_len PySem.boot_len (pa_cons (pv 11) pa_nil)) (pe_op op_sub (pv 10) (pv 8)) (nomark _)) (pw_or1 (pt_cmpR op_gt (pe_op (k_plus K) (pv 8) (pe_callB (k_len K) (by rfl) T.b_len PySem.boot_len (pa_cons (pv 11) pa_nil))) (pv 3) (nomark _))))) (pss_one (ps_ret pe_non)) pss_nil)
 (pss_one (ps_for PassesOwn.never rfl (pi_range1 (by rfl) T.b_range (pa_cons (pe_callB (k_len K) (by rfl) T.b_len PySem.boot_len (pa_cons (pv 11) pa_nil)) pa_nil)) (pg_name (i := 5) sc_law_due.nd rfl (Or.inl rfl)) (pss_cons (ps_if (PW.pt (pw_or (pt_cmpR op_gt (pe_callB (k_len K) (by rfl) T.b_len PySem.boot_len (pa_cons (pe_ix (k_ix K) (pv 11) (pv 5) (fun _ _ => rfl)) pa_nil)) (pe_op op_sub (pv 9) (pv 7)) (nomark _)) (pw_or1 (pt_cmpR op_gt (pv 9) (pv 2) (nomark _))))) (pss_one (ps_ret pe_non)) pss_nil)
 (pss_one (ps_for PassesOwn.never rfl (pi_range1 (by rfl) T.b_range (pa_cons (pe_callB (k_len K) (by rfl) T.b_len PySem.boot_len (pa_cons (pe_ix (k_ix K) (pv 11) (pv 5) (fun _ _ => rfl)) pa_nil)) pa_nil)) (pg_name (i := 12) sc_law_due.nd rfl (Or.inl rfl)) (pss_one (ps_asg (pe_ix (k_ix K) (pe_ix (k_ix K) (pv 11) (pv 5) (fun _ _ => rfl)) (pv 12) (fun _ _ => rfl)) (pg_sub (pe_ix (k_ix K) (pv 4) (pe_op (k_plus K) (pv 8) (pv 5)) (fun _ _ => rfl)) (pe_op (k_plus K) (pv 7) (pv 12)) set_list))))))))))))
 (pss_one (ps_ret (pe_lc (own := [("row", 13)]) (g := _) (tt := _) (by rfl) sc_law_due.nd (k_piL K rfl (pv 4)) (blkOk_by (N := N_law_due) (sc := defScope s_law_due) (by decide +kernel)) (fun _ _ _ _ _ => (pg_name (i := 13) sc_law_due.nd rfl (Or.inl rfl))) (fun _ _ _ _ _ => pts_nil) (fun _ _ _ _ _ => (k_join K rfl pe_str (pv 13)))))))), rd_of h fun B ls Po Pe hB hG hE => ?_⟩)
  obtain ⟨x, ts, ns, w, h, rfl, ⟨hX, hp, hfit, hw, hh1, hh2⟩, q⟩ := hG
  have hT := hX.tx
  have hx := hX.num
  have hnl := hX.good.le
  have htl := hX.len
  have hw1 := (fit_pos (txt ts) hx _ _ hfit).1
  obtain ⟨S, hS⟩ : ∃ S, S = setT (txt ts) x (0, 0, w, h) := ⟨_, rfl⟩
  rw [← hS]
  obtain ⟨Ps, hPs⟩ : ∃ Ps, Ps = ((ixs 0 ts.length).map (pieceOf S)).map pcD := ⟨_, rfl⟩
  have hPa : ∀ i : Int, 0 ≤ i → i < ts.length → atI Ps i = some (pcD (pieceOf S i)) := fun i h0 h1 => by
    have := atI_nat (xs := Ps) (j := i.toNat) (x := pcD (pieceOf S i)) (by rw [hPs, List.getElem?_map, List.getElem?_map, ixs_at, if_pos (by omega)]; show some (pcD (pieceOf S (0 + ((i.toNat : Nat) : Int)))) = _; rw [show (0 : Int) + ((i.toNat : Nat) : Int) = i by omega])
    rw [show ((i.toNat : Nat) : Int) = i by omega] at this
    exact this
  rw [← hPs]
  clear hPs
  show WS B K _ [some (.d (.list Ps)), some (.d (.list (ts.map textD))), some (.d (.int w)), some (.d (.int h)), none, none, none, none, none, none, none, none, none, none] _
  have hsp : Str.ofString " " = ⟨#[32]⟩ := by decide +kernel
  refine ws_seq (ws_asgO (np_of hB (by decide)) (we_lc1N (List.replicate w.toNat (strD 32)) (.name 5) ?_))
  walk_at "sn"
  refine ⟨fun a ha B' hB' => ?_, fun D bs hbl => ?_⟩
  · refine wg_name (np_of hB' (by decide)) ?_
    refine we_rep ?_
    walk_at "sn"
    rw [rep_flat, hsp]
    rfl
  refine ⟨_, rfl, ?_⟩
  rw [matO_blank, hbl]
  show WS B K _ [some (.d (.list Ps)), some (.d (.list (ts.map textD))), some (.d (.int w)), some (.d (.int h)), some (.deep (.lst D (matO bs (pagM (txt ts) x ts.length w h 0)))), none, none, none, none, none, none, none, none, none] _
  have hbox : ∀ i : Int, 0 ≤ i → i < ts.length → Boxed (txt ts) w h i (pieceOf S i) := fun i h0 h1 => by rw [hS]; exact boxed_of hx hp hfit h0 h1
  have hdm : ∀ m, Dm w.toNat h.toNat (pagM (txt ts) x ts.length w h m) := fun m => pagM_dm hT x ts.length w h m
  have hsucc : ∀ m : Nat, pagM (txt ts) x ts.length w h (m + 1) = paintY (pagM (txt ts) x ts.length w h m) (pieceOf S m).2.1.toNat (pieceOf S m).1.toNat ((linesW ((pieceOf S m).2.2.1 - (pieceOf S m).1) (txt ts m)).map fun z => z.cps.toList) := fun m => by rw [hS]; exact pagM_succ _ _ _ _ _ _
  walk_at "sn"
  refine ⟨fun pre ρ' => ∃ (bs : List Addr) (o5 o6 o7 o8 o9 o10 o11 o12 : Option L), bs.length = h.toNat ∧ ρ' = [some (.d (.list Ps)), some (.d (.list (ts.map textD))), some (.d (.int w)), some (.d (.int h)), some (.deep (.lst D (matO bs (pagM (txt ts) x ts.length w h pre.length)))), o5, o6, o7, o8, o9, o10, o11, o12, none], ⟨bs, _, _, _, _, _, _, _, _, hbl, rfl⟩, fun pre k post ρ2 ha hI => ?_, fun ρ2 hI => ?_⟩
  · obtain ⟨bs, o5, o6, o7, o8, o9, o10, o11, o12, hbl, rfl⟩ := hI
    obtain ⟨ea, hpn⟩ := ixs_split ha
    have ek : k = (pre.length : Int) := by omega
    subst ek
    have hB1 := hbox (pre.length : Int) (by omega) (by omega)
    have hs1 := hsucc pre.length
    have hd0 := hdm pre.length
    have hww := hT.at' (pre.length : Int)
    have hti := txt_at2 (ts := ts) (i := (pre.length : Int)) (by omega) (by omega)
    have hpa := hPa (pre.length : Int) (by omega) (by omega)
    have hpl1 : (pre ++ [(pre.length : Int)]).length = pre.length + 1 := by simp
    obtain ⟨⟨l0, t0, r0, b0⟩, hpc⟩ : ∃ p, p = pieceOf S (pre.length : Int) := ⟨_, rfl⟩
    refine wg_name (np_of hB (by decide)) ?_
    refine ws_opq fun Z' hnx _ _ _ => ?_
    have hnx2 : ∀ (bs : List Addr) (o5 o6 o7 o8 o9 o10 o11 o12 : Option L), bs.length = h.toNat → Z'.nx [some (.d (.list Ps)), some (.d (.list (ts.map textD))), some (.d (.int w)), some (.d (.int h)), some (.deep (.lst D (matO bs (pagM (txt ts) x ts.length w h (pre.length + 1))))), o5, o6, o7, o8, o9, o10, o11, o12, none] := fun bs o5 o6 o7 o8 o9 o10 o11 o12 e => hnx _ ⟨bs, o5, o6, o7, o8, o9, o10, o11, o12, e, by rw [hpl1]⟩
    clear hnx hdm hsucc hbox ha hfit hX hp hPa hpl1 ea
    generalize pagM (txt ts) x ts.length w h pre.length = M0 at hs1 hd0 ⊢
    generalize pagM (txt ts) x ts.length w h (pre.length + 1) = M2 at hs1 hnx2
    rw [← hpc] at hs1 hB1 hpa
    obtain ⟨g1, g2, g3, g4, f1, f2, f3, f4⟩ := hB1
    dsimp only at g1 g2 g3 g4 f1 f2 f3 f4 hs1
    generalize txt ts (pre.length : Int) = wd at hs1 hww f3 f4 hti
    walk_at "sn"
    refine idx_list hpa ?_
    show WG B K _ (.tuple [.int l0, .int t0, .int r0, .int b0]) _ _
    walk_at "sn"
    refine idx_list hti ?_
    walk_at "sn"
    show Lof (.list (wd.map .str)) _
    refine lof_list ⟨_, rfl, ?_⟩
    walk_at "sn"
    obtain ⟨LL, hLL⟩ : ∃ LL, LL = linesW (r0 - l0) wd := ⟨_, rfl⟩
    have hfitL : ∀ f, f ∈ LL → (f.length : Int) ≤ r0 - l0 := fun f hf => by rw [hLL] at hf; exact lines_fit f3 f hf
    have hsmL : ∀ f, f ∈ LL → ∀ c, c ∈ f.cps.toList → c < 1114112 := fun f hf => by rw [hLL] at hf; exact line_small hww.2 hf
    have hlenL : (LL.length : Int) ≤ b0 - t0 := by rw [hLL]; exact f4
    refine ⟨.list (wd.map .str), r0 - l0, rfl, shorts_text hww.2, .inr ⟨wd, rfl, hww.2, by omega, fun _ => ⟨_, rfl, ?_⟩, fun ⟨v, hv, hn⟩ => absurd (f3 v hv) hn⟩⟩
    rw [← hLL] at hs1 ⊢
    clear hLL f4 f3 hww hti hpa
    show WS B K _ [some (.d (.list Ps)), some (.d (.list (ts.map textD))), some (.d (.int w)), some (.d (.int h)), some (.deep (.lst D (matO bs M0))), o5, some (.d (.int (pre.length : Int))), some (.d (.int l0)), some (.d (.int t0)), some (.d (.int r0)), some (.d (.int b0)), some (.d (.list (LL.map .str))), o12, none] _
    refine ws_seq ?_
    refine ws_ifC False True ?_ (fun z => z.elim) fun _ => ?_
    · walk_at "sv"
      · omega
      · exact ⟨rfl, (fun hz => by have hz := of_decide_eq_true hz; omega), fun _ => trivial⟩
    walk_at "sn"
    refine ⟨fun pre2 ρ' => ∃ (bs : List Addr) (o5 o12 : Option L), bs.length = h.toNat ∧ ρ' = [some (.d (.list Ps)), some (.d (.list (ts.map textD))), some (.d (.int w)), some (.d (.int h)), some (.deep (.lst D (matO bs (paintY M0 t0.toNat l0.toNat ((LL.take pre2.length).map fun z => z.cps.toList))))), o5, some (.d (.int (pre.length : Int))), some (.d (.int l0)), some (.d (.int t0)), some (.d (.int r0)), some (.d (.int b0)), some (.d (.list (LL.map .str))), o12, none], ⟨bs, _, _, hbl, rfl⟩, fun pre2 y post2 ρ3 hu hI2 => ?_, fun ρ3 hI2 => ?_⟩
    · obtain ⟨bs, o5, o12, hbl, rfl⟩ := hI2
      obtain ⟨ey, hyn⟩ := ixs_split hu
      have ey2 : y = (pre2.length : Int) := by omega
      subst ey2
      obtain ⟨line, hln⟩ : ∃ line, LL[pre2.length]? = some line := ⟨_, List.getElem?_eq_getElem (by omega)⟩
      have hlm := List.mem_of_getElem? hln
      have hll := hfitL line hlm
      have hsm := hsmL line hlm
      have hjl := (List.getElem?_eq_some_iff.mp hln).1
      have hla : atI (LL.map PyData.str) (pre2.length : Int) = some (.str line) := atI_map (atI_nat hln)
      have hdY : Dm w.toNat h.toNat (paintY M0 t0.toNat l0.toNat ((LL.take pre2.length).map fun z => z.cps.toList)) := hd0.paintY fun l hl c hc => by
        obtain ⟨z, hz, rfl⟩ := List.mem_map.mp hl
        exact hsmL z (List.mem_of_mem_take hz) c hc
      have hsn : paintY M0 t0.toNat l0.toNat ((LL.take (pre2 ++ [(pre2.length : Int)]).length).map fun z => z.cps.toList) = paintX (paintY M0 t0.toNat l0.toNat ((LL.take pre2.length).map fun z => z.cps.toList)) (t0.toNat + pre2.length) l0.toNat line.cps.toList := by
        rw [show (pre2 ++ [(pre2.length : Int)]).length = pre2.length + 1 by simp, take_snoc hln, List.map_append]
        show paintY _ _ _ (_ ++ [line.cps.toList]) = _
        rw [paintY_snoc, List.length_map, List.length_take, Nat.min_eq_left (by omega)]
      refine wg_name (np_of hB (by decide)) ?_
      refine ws_opq fun Z2 hnx3 _ _ _ => ?_
      have hnx4 : ∀ (bs : List Addr) (o5 o12 : Option L), bs.length = h.toNat → Z2.nx [some (.d (.list Ps)), some (.d (.list (ts.map textD))), some (.d (.int w)), some (.d (.int h)), some (.deep (.lst D (matO bs (paintX (paintY M0 t0.toNat l0.toNat ((LL.take pre2.length).map fun z => z.cps.toList)) (t0.toNat + pre2.length) l0.toNat line.cps.toList)))), o5, some (.d (.int (pre.length : Int))), some (.d (.int l0)), some (.d (.int t0)), some (.d (.int r0)), some (.d (.int b0)), some (.d (.list (LL.map .str))), o12, none] := fun bs o5 o12 e => hnx3 _ ⟨bs, o5, o12, e, by rw [hsn]⟩
      clear hnx3 hsn hu hnx2 hs1 hd0
      generalize paintY M0 t0.toNat l0.toNat ((LL.take pre2.length).map fun z => z.cps.toList) = M1 at hdY hnx4 ⊢
      have hll2 : line.length ≤ 1000000 := by omega
      refine ws_seq ?_
      refine ws_ifC False True ?_ (fun z => z.elim) fun _ => ?_
      · walk_at "sv"
        refine idx_list hla ?_
        walk_at "sv"
        · omega
        · exact ⟨rfl, (fun hz => by have hz := of_decide_eq_true hz; omega), fun _ => trivial⟩
      refine ws_next ?_
      show WS B K _ [some (.d (.list Ps)), some (.d (.list (ts.map textD))), some (.d (.int w)), some (.d (.int h)), some (.deep (.lst D (matO bs M1))), some (.d (.int (pre2.length : Int))), some (.d (.int (pre.length : Int))), some (.d (.int l0)), some (.d (.int t0)), some (.d (.int r0)), some (.d (.int b0)), some (.d (.list (LL.map .str))), o12, none] _
      walk_at "sn"
      refine idx_list hla ?_
      walk_at "sn"
      have hcl : line.cps.toList.length = line.length := by rw [Array.length_toList]; rfl
      refine ⟨fun pre3 ρ' => ∃ (bs : List Addr) (o12 : Option L), bs.length = h.toNat ∧ ρ' = [some (.d (.list Ps)), some (.d (.list (ts.map textD))), some (.d (.int w)), some (.d (.int h)), some (.deep (.lst D (matO bs (paintX M1 (t0.toNat + pre2.length) l0.toNat (line.cps.toList.take pre3.length))))), some (.d (.int (pre2.length : Int))), some (.d (.int (pre.length : Int))), some (.d (.int l0)), some (.d (.int t0)), some (.d (.int r0)), some (.d (.int b0)), some (.d (.list (LL.map .str))), o12, none], ⟨bs, _, hbl, rfl⟩, fun pre3 i post3 ρ4 hu hI3 => ?_, fun ρ4 hI3 => ?_⟩
      · obtain ⟨bs, o12, hbl, rfl⟩ := hI3
        obtain ⟨ei, hin⟩ := ixs_split hu
        have ei2 : i = (pre3.length : Int) := by omega
        subst ei2
        obtain ⟨c, hc⟩ : ∃ c, line.cps.toList[pre3.length]? = some c := ⟨_, List.getElem?_eq_getElem (by omega)⟩
        have hca : atI line.cps.toList (pre3.length : Int) = some c := atI_nat hc
        have hil := (List.getElem?_eq_some_iff.mp hc).1
        have hcs := hsm c (List.mem_of_getElem? hc)
        have hdX : Dm w.toNat h.toNat (paintX M1 (t0.toNat + pre2.length) l0.toNat (line.cps.toList.take pre3.length)) := hdY.paintX fun d hd => hsm d (List.mem_of_mem_take hd)
        have hsn : paintX M1 (t0.toNat + pre2.length) l0.toNat (line.cps.toList.take (pre3 ++ [(pre3.length : Int)]).length) = setM (paintX M1 (t0.toNat + pre2.length) l0.toNat (line.cps.toList.take pre3.length)) (t0.toNat + pre2.length) (l0.toNat + pre3.length) c := by
          rw [show (pre3 ++ [(pre3.length : Int)]).length = pre3.length + 1 by simp, take_snoc hc, paintX_snoc, List.length_take, Nat.min_eq_left (by omega)]
        clear hu
        generalize paintX M1 (t0.toNat + pre2.length) l0.toNat (line.cps.toList.take pre3.length) = M3 at hdX hsn ⊢
        obtain ⟨row, hr1, hr2, hr3⟩ := hdX.row (y := t0.toNat + pre2.length) (by omega)
        have hbM : bs.length = M3.length := by rw [hbl, hdX.h]
        obtain ⟨b, hb1, hb2⟩ := matO_at hbM hr1
        have hb3 : atI (matO bs M3) (t0 + (pre2.length : Int)) = some (.lst b (rowO row)) := by
          have := atI_nat hb2
          rw [show (((t0.toNat + pre2.length : Nat)) : Int) = t0 + (pre2.length : Int) by omega] at this
          exact this
        have hput := matO_put hbM (x := l0.toNat + pre3.length) (c := c) hr1 hb1
        refine wg_name (np_of hB (by decide)) ?_
        show WS B K _ [some (.d (.list Ps)), some (.d (.list (ts.map textD))), some (.d (.int w)), some (.d (.int h)), some (.deep (.lst D (matO bs M3))), some (.d (.int (pre2.length : Int))), some (.d (.int (pre.length : Int))), some (.d (.int l0)), some (.d (.int t0)), some (.d (.int r0)), some (.d (.int b0)), some (.d (.list (LL.map .str))), some (.d (.int (pre3.length : Int))), none] _
        refine ws_setItemP ?_
        refine wd_ix (wd_ix (wd_var rfl (wd_var rfl (idx_list hla (wd_var rfl (idx_str hll2 hca ?_))))))
        refine we_ixP ?_
        refine we_ptr (t := .lst D (matO bs M3)) rfl ?_
        refine ⟨D, rfl, ?_⟩
        walk_at "sn"
        refine ⟨4, _, [], _, _, _, rfl, rfl, .inl rfl, hb3, b, rfl, ?_⟩
        walk_at "sn"
        have hrl : (rowO row).length = w.toNat := by unfold rowO; rw [List.length_map]; exact hr2
        refine ⟨4, .lst D (matO bs M3), [t0.toNat + pre2.length], rowO row, l0 + (pre3.length : Int), l0.toNat + pre3.length, np_of hB (by decide), rfl, ?_, rfl, ?_, bs, some (.d (.int (pre3.length : Int))), hbl, ?_⟩
        · show (match (matO bs M3)[t0.toNat + pre2.length]? with | some u => OT.at [] u | none => none) = _
          rw [hb2]
          rfl
        · rw [hrl, show l0 + (pre3.length : Int) = ((l0.toNat + pre3.length : Nat) : Int) by omega]
          exact ixN_of (by omega)
        · rw [hsn, ← hput]
          have hpt : OT.put [t0.toNat + pre2.length] (.lst D (matO bs M3)) (.lst b ((rowO row).set (l0.toNat + pre3.length) (.d (strD c)))) = .lst D ((matO bs M3).set (t0.toNat + pre2.length) (.lst b ((rowO row).set (l0.toNat + pre3.length) (.d (strD c))))) := by
            show (match (matO bs M3)[t0.toNat + pre2.length]? with | some u => OT.lst D ((matO bs M3).set (t0.toNat + pre2.length) (.lst b ((rowO row).set (l0.toNat + pre3.length) (.d (strD c))))) | none => _) = _
            rw [hb2]
          rw [← hpt]
          rfl
      · obtain ⟨bs, o12, hbl, rfl⟩ := hI3
        rw [ixs_len, Int.toNat_natCast, ← hcl, List.take_length]
        exact hnx4 bs _ _ hbl
    · obtain ⟨bs, o5, o12, hbl, rfl⟩ := hI2
      rw [ixs_len, Int.toNat_natCast, List.take_length, ← hs1]
      exact hnx2 bs _ _ _ _ _ _ _ _ hbl
  · obtain ⟨bs, o5, o6, o7, o8, o9, o10, o11, o12, hbl, rfl⟩ := hI
    rw [ixs_len, Int.toNat_natCast]
    have hd0 := hdm ts.length
    obtain ⟨h1, h2⟩ := matO_data (bs := bs) (M := pagM (txt ts) x ts.length w h ts.length) (by rw [hbl, hd0.h])
    show WS B K _ [some (.d (.list Ps)), some (.d (.list (ts.map textD))), some (.d (.int w)), some (.d (.int h)), some (.deep (.lst D (matO bs (pagM (txt ts) x ts.length w h ts.length)))), o5, o6, o7, o8, o9, o10, o11, o12, none] _
    refine ws_toD (j := 4) rfl (np_of hB (by decide)) h2 ?_
    rw [show (OT.lst D (matO bs (pagM (txt ts) x ts.length w h ts.length))).data = .list ((pagM (txt ts) x ts.length w h ts.length).map rowPD) from congrArg PyData.list h1]
    generalize pagM (txt ts) x ts.length w h ts.length = M at hd0 q ⊢
    show WS B K _ [some (.d (.list Ps)), some (.d (.list (ts.map textD))), some (.d (.int w)), some (.d (.int h)), some (.d (.list (M.map rowPD))), o5, o6, o7, o8, o9, o10, o11, o12, none] _
    refine ws_ret (we_lcL rowPD (fun row o => o = some (.str (rowJ row))) (.name 13) ?_)
    walk_at "sn"
    have hMl := hd0.h
    refine ⟨by show M.length ≤ 1000000; omega, fun row hr B' hB' => ?_, fun ys hy => ?_⟩
    · have hrw := (hd0.w row hr).1
      refine wg_name (np_of hB' (by decide)) ?_
      walk_at "sn"
      refine ⟨row.map sgS, by unfold rowPD; rw [List.map_map]; rfl, ?_, rfl⟩
      rw [sg_sum, show (Str.ofString "").length = 0 by decide +kernel]
      omega
    have ey := Sel.map (f := fun row => PyData.str (rowJ row)) hy
    subst ey
    exact q

/-! ### a tree fits where each box is twelve wide -/
theorem fit12 (tx : Int → List Str) (hw : ∀ i v, v ∈ tx i → v.length ≤ 12) {x : PyData} {ab : Str} {ns : List Int} (h : numT ab x = some ns) : fitT tx x (12 * (ns.length : Int)) (hbs tx ns) := by
  refine tree_ind (P := fun x => ∀ ab ns, numT ab x = some ns → fitT tx x (12 * (ns.length : Int)) (hbs tx ns)) (fun i ab ns e => ?_) (fun k ps hk hl ih ab ns e => ?_) h _ _ h
  · rw [numT_int] at e
    cases e
    have e1 : hbs tx [i] = 1 + ((tx i).length : Int) := by unfold hbs; simp
    rw [e1]
    have := lines_len (w := 12 * (([i] : List Int).length : Int)) (tx i)
    refine fitT_int.mpr ⟨by show (1 : Int) ≤ 12 * ((1 : Nat) : Int); omega, by omega, fun v hv => ?_, ?_⟩
    · have := hw i v hv
      show (v.length : Int) ≤ 12 * ((1 : Nat) : Int)
      omega
    · show (((linesW _ (tx i)).length : Nat) : Int) ≤ _
      omega
  · rcases numT_cases e with ⟨i, e2, _⟩ | ⟨k', ps', e2, -, hn⟩
    · cases e2
    · injection e2 with e2
      injection e2 with e3 e4
      injection e3 with e3
      injection e4 with e4
      injection e4 with e4
      subst e3 e4
      have hmono : ∀ p, p ∈ ps → Mono (fitT tx p) := fun p hp => by obtain ⟨ms, e⟩ := numTs_sub hn p hp; exact fit_mono tx e
      rcases hk with rfl | rfl
      · refine fitT_bar.mpr ?_
        clear e hl
        induction ps generalizing ns with
        | nil => rw [numTs_nil] at hn; cases hn; exact beside_nil.mpr (Int.le_refl _)
        | cons p ps ih2 =>
          obtain ⟨a, b, e1, e2, rfl⟩ := numTs_consI hn
          have g1 := ih p List.mem_cons_self _ _ e2
          have g2 := ih2 (fun q hq => ih q (List.mem_cons_of_mem _ hq)) a (fun q hq => hmono q (List.mem_cons_of_mem _ hq)) e1
          have na := hbs_nn tx a
          have nb := hbs_nn tx b
          rw [hbs_app, List.length_append]
          exact beside_cons.mpr ⟨12 * (b.length : Int), hmono p List.mem_cons_self _ _ _ _ g1 (Int.le_refl _) (by omega), beside_mono (fun q hq => hmono q (List.mem_cons_of_mem _ hq)) _ _ _ _ g2 (by omega) (by omega)⟩
      · refine fitT_dash.mpr ?_
        clear e hl
        induction ps generalizing ns with
        | nil => rw [numTs_nil] at hn; cases hn; exact below_nil.mpr (Int.le_refl _)
        | cons p ps ih2 =>
          obtain ⟨a, b, e1, e2, rfl⟩ := numTs_consI hn
          have g1 := ih p List.mem_cons_self _ _ e2
          have g2 := ih2 (fun q hq => ih q (List.mem_cons_of_mem _ hq)) a (fun q hq => hmono q (List.mem_cons_of_mem _ hq)) e1
          rw [hbs_app, List.length_append]
          exact below_cons.mpr ⟨hbs tx b, hmono p List.mem_cons_self _ _ _ _ g1 (by omega) (Int.le_refl _), below_mono (fun q hq => hmono q (List.mem_cons_of_mem _ hq)) _ _ _ _ g2 (by omega) (by omega)⟩

/-! ### trees that are good -/
theorem TrOk.sn {x : PyData} {ns : List Int} (h : TrOk x ns) (hl : ns.length ≤ 24) : SN 200 x := ⟨h.ok.sok, by have := h.sz; omega⟩
theorem TrOk.good {x : PyData} {ns : List Int} {n : Nat} (h : TrOk x ns) (p : ns.Perm (ixs 0 n)) (hn : n ≤ 24) : Good x := by
  refine ⟨ns, h.num, ?_, fun k hk => ?_⟩
  · refine p.nodup_iff.mpr ?_
    unfold ixs
    refine List.Pairwise.map _ (fun a b e z => e ?_) List.nodup_range
    omega
  · have h2 := ixs_mem (p.mem_iff.mp hk)
    have h3 := p.length_eq
    rw [ixs_len] at h3
    omega

/-! ### the law -/
theorem join_flat2 : ∀ xs : List Str, (Txt.join (Str.ofString "") xs).cps.toList = (xs.map fun z => z.cps.toList).flatten := by
  intro xs
  rw [TL.join_eq]
  induction xs with
  | nil => rfl
  | cons x xs ih =>
    cases xs with
    | nil =>
      show x.cps.toList = x.cps.toList ++ []
      rw [List.append_nil]
    | cons z xs =>
      rw [List.map_cons, List.flatten_cons, ← ih]
      show ((x ++ Str.ofString "") ++ Str.join (Str.ofString "") (z :: xs)).cps.toList = _
      show ((x.cps ++ (Str.ofString "").cps) ++ (Str.join (Str.ofString "") (z :: xs)).cps).toList = _
      rw [Array.toList_append, Array.toList_append, show (Str.ofString "").cps.toList = [] by decide +kernel, List.append_nil]
theorem rowJ_ok {row : List Nat} (h : ∀ c, c ∈ row → c < 1114112) : PyData.strOk (rowJ row) = true := by
  unfold PyData.strOk rowJ
  rw [Array.all_eq_true']
  intro c hc
  have hc2 : c ∈ (Txt.join (Str.ofString "") (row.map sgS)).cps.toList := Array.mem_toList_iff.mpr hc
  rw [join_flat2, List.map_map] at hc2
  obtain ⟨l, hl, hcl⟩ := List.mem_flatten.mp hc2
  obtain ⟨d, hd, rfl⟩ := List.mem_map.mp hl
  have : c = d := by simpa [sgS] using hcl
  rw [this]
  exact decide_eq_true (h d hd)
theorem ok_law (T : Txt K mg) : FnOk P w K mg base CX0 65 T.f_law T.fd_law ["script"] (SpG K none G_law) := by
  refine T.d_law.F.ok sc_law (SpG.len (n := 1) fun ls Po Pe h => by obtain ⟨_, rfl, _⟩ := h; rfl) (fun cdv A outer s H vs Q E hr h => ⟨_, (pss_cons (ps_set (i := 1) sc_law.nd rfl (.inl rfl) (pe_call (ok_law_tree T) (hr.mono (by decide)) (by rfl) T.d_law_tree.g T.d_law_tree.kp T.d_law_tree.b .nil pass0 (pa_cons (pv 0) (pa_cons pe_int (pa_cons (pe_ix (k_ix K) (pe_lst (pa_cons pe_int (pa_cons pe_int (pa_cons pe_int (pa_cons pe_int pa_nil))))) (pe_op op_modN (pe_call (ok_law_cell T) (hr.mono (by decide)) (by rfl) T.d_law_cell.g T.d_law_cell.kp T.d_law_cell.b .nil pass0 (pa_cons (pv 0) (pa_cons pe_int pa_nil))) pe_int) (fun _ _ => rfl)) pa_nil)))))
 (pss_cons (ps_set (i := 2) sc_law.nd rfl (.inl rfl) (pe_call (ok_law_texts T) (hr.mono (by decide)) (by rfl) T.d_law_texts.g T.d_law_texts.kp T.d_law_texts.b .nil pass0 (pa_cons (pv 0) (pa_cons (pe_call (ok_law_count T) (hr.mono (by decide)) (by rfl) T.d_law_count.g T.d_law_count.kp T.d_law_count.b .nil pass0 (pa_cons (pv 1) pa_nil)) pa_nil))))
 (pss_cons (ps_set (i := 3) sc_law.nd rfl (.inl rfl) (pe_call (ok_least_wide T) (hr.mono (by decide)) (by rfl) T.d_least_wide.g T.d_least_wide.kp T.d_least_wide.b .nil passL (pa_cons (pv 1) (pa_cons (pv 2) (pa_cons pe_int pa_nil)))))
 (pss_cons (ps_if (PW.pt (pw_or (pt_not (pt_val (pe_callB (k_isi K) (by rfl) T.b_isinstance (by decide +kernel) (pa_cons (pv 3) (pa_cons (pe_bltn (v := .ty "int") (by rfl) T.b_int (by decide +kernel) rfl) pa_nil))))) (pw_or (pt_val (pe_callB (k_isi K) (by rfl) T.b_isinstance (by decide +kernel) (pa_cons (pv 3) (pa_cons (pe_bltn (v := .ty "bool") (by rfl) T.b_bool (by decide +kernel) rfl) pa_nil)))) (pw_or1 (pt_cmpR op_lt (pv 3) pe_int (nomark _)))))) (pss_one (ps_ret pe_bl)) pss_nil)
 (pss_cons (ps_set (i := 3) sc_law.nd rfl (.inl rfl) (pe_callB (call_min2 rfl) (by rfl) T.b_min (by decide +kernel) (pa_cons pe_int (pa_cons (pe_op (k_plus K) (pv 3) (pe_op op_modN (pe_call (ok_law_cell T) (hr.mono (by decide)) (by rfl) T.d_law_cell.g T.d_law_cell.kp T.d_law_cell.b .nil pass0 (pa_cons (pv 0) (pa_cons pe_int pa_nil))) pe_int)) pa_nil))))
 (pss_cons (ps_set (i := 4) sc_law.nd rfl (.inl rfl) (pe_call (ok_least_high T) (hr.mono (by decide)) (by rfl) T.d_least_high.g T.d_least_high.kp T.d_least_high.b .nil passL (pa_cons (pv 1) (pa_cons (pv 2) (pa_cons (pv 3) pa_nil)))))
 (pss_cons (ps_if (PW.pt (pw_or (pt_not (pt_val (pe_callB (k_isi K) (by rfl) T.b_isinstance (by decide +kernel) (pa_cons (pv 4) (pa_cons (pe_bltn (v := .ty "int") (by rfl) T.b_int (by decide +kernel) rfl) pa_nil))))) (pw_or (pt_val (pe_callB (k_isi K) (by rfl) T.b_isinstance (by decide +kernel) (pa_cons (pv 4) (pa_cons (pe_bltn (v := .ty "bool") (by rfl) T.b_bool (by decide +kernel) rfl) pa_nil)))) (pw_or1 (pt_cmpR op_lt (pv 4) pe_int (nomark _)))))) (pss_one (ps_ret pe_bl)) pss_nil)
 (pss_cons (ps_setLc (i := 5) (own := [("words", 6)]) (g := _) (tt := _) rfl sc_law.nd rfl rfl (sw_true rfl rfl rfl (by decide +kernel)) (k_piL K rfl (pv 2)) (blkOk_by (N := N_law) (sc := defScope s_law) (by decide +kernel)) (fun _ _ _ _ _ => (pg_name (i := 6) sc_law.nd rfl (Or.inl rfl))) (fun _ _ _ _ _ => pts_nil) (fun _ _ _ _ _ => (pe_callTy (k_listOf K) (by rfl) T.b_list (by decide +kernel) (pa_cons (pv 6) pa_nil))))
 (pss_cons (ps_set (i := 7) sc_law.nd rfl (.inl rfl) (pe_call (ok_law_due T) (hr.mono (by decide)) (by rfl) T.d_law_due.g T.d_law_due.kp T.d_law_due.b .nil pass0 (pa_cons (pe_call (ok_setting T) (hr.mono (by decide)) (by rfl) T.d_setting.g T.d_setting.kp T.d_setting.b .nil passL (pa_cons (pv 1) (pa_cons (pv 2) (pa_cons (pv 3) (pa_cons (pv 4) pa_nil))))) (pa_cons (pv 2) (pa_cons (pv 3) (pa_cons (pv 4) pa_nil))))))
 (pss_cons (ps_setO (i := 8) sc_law.nd rfl (.inl rfl) (pe_call (ok_printed T) hr (by rfl) T.d_printed.g T.d_printed.kp T.d_printed.b .nil passL (pa_cons (pv 1) (pa_cons (pv 5) (pa_cons (pv 3) pa_nil)))))
 (pss_cons (ps_if (PW.pt (pw_or (pt_cmp (pc_isN (pv 7))) (pw_or (pt_not (pt_val (pe_callB (k_isi K) (by rfl) T.b_isinstance (by decide +kernel) (pa_cons (pv 8) (pa_cons (pe_bltn (v := .ty "list") (by rfl) T.b_list (by decide +kernel) rfl) pa_nil))))) (pw_or (pt_cmpR (k_neD K rfl hr.units) (pv 8) (pv 7) (nomark _)) (pw_or1 (pt_cmpR (k_neD K rfl hr.units) (pv 5) (pv 2) (nomark _))))))) (pss_one (ps_ret pe_bl)) pss_nil)
 (pss_cons (ps_for PassesOwn.never rfl (k_piL K rfl (pv 8)) (pg_name (i := 9) sc_law.nd rfl (Or.inl rfl)) (pss_one (ps_if (pt_not (pt_val (pe_callB (k_isi K) (by rfl) T.b_isinstance (by decide +kernel) (pa_cons (pv 9) (pa_cons (pe_bltn (v := .ty "str") (by rfl) T.b_str (by decide +kernel) rfl) pa_nil))))) (pss_one (ps_ret pe_bl)) pss_nil)))
 (pss_cons (ps_asg pe_str (pg_sub (pv 8) pe_int set_list))
 (pss_cons (ps_expr (k_bm K rfl PySem.F.plainAttrs_list PySem.F.slot_list_append PySem.F.type_list_append mt_append (pv 8) (pa_cons pe_str pa_nil)))
 (pss_one (ps_ret (pe_cmpR (k_eqD K rfl hr.units) (pe_call (ok_printed T) hr (by rfl) T.d_printed.g T.d_printed.kp T.d_printed.b .nil passL (pa_cons (pv 1) (pa_cons (pv 2) (pa_cons (pv 3) pa_nil)))) (pv 7) (nomark _)))))))))))))))))), rd_of h fun B ls Po Pe hB hG hE => ?_⟩)
  obtain ⟨ns, rfl, hn, q⟩ := hG
  show WS B K _ [some (.scr ns), none, none, none, none, none, none, none, none, none] _
  walk_at "sn"
  refine ⟨ns, 2, rfl, ⟨by decide, by decide, hn⟩, fun z0 => ⟨_, rfl, ?_⟩⟩
  walk_at "sn"
  obtain ⟨mo, hmo, hmo2⟩ : ∃ mo : Int, atI [PyData.int 24, .int 24, .int 6, .int 2] (z0 % 4) = some (.int mo) ∧ mo ≤ 24 := by
    rcases (show z0 % 4 = 0 ∨ z0 % 4 = 1 ∨ z0 % 4 = 2 ∨ z0 % 4 = 3 by omega) with e | e | e | e <;> rw [e]
    · exact ⟨24, rfl, by decide⟩
    · exact ⟨24, rfl, by decide⟩
    · exact ⟨6, rfl, by decide⟩
    · exact ⟨2, rfl, by decide⟩
  refine idx_list hmo ?_
  walk_at "sn"
  refine ⟨ns, 5, mo, rfl, ⟨hn, by decide, by decide, hmo2⟩, fun x nsx n hx hp hn24 => ⟨_, rfl, ?_⟩⟩
  have hnl : nsx.length = n := by rw [hp.length_eq, ixs_len]
  clear hmo hmo2
  show WS B K _ [some (.scr ns), some (.d x), none, none, none, none, none, none, none, none] _
  walk_at "sn"
  refine ⟨x, n, rfl, ⟨by rw [← hnl]; exact numT_cN _ (Nat.le_refl _) hx.num, by omega, by decide⟩, ⟨_, rfl, ?_⟩⟩
  walk_at "sn"
  refine ⟨ns, n, rfl, ⟨hn, by omega, by omega⟩, fun ts htl hT => ⟨_, rfl, ?_⟩⟩
  have hlen : ts.length = n := by omega
  subst hlen
  have hgood : GoodNs nsx := by
    obtain ⟨ns', e1, hg⟩ := hx.good hp (by omega)
    rw [hx.num] at e1
    cases e1
    exact hg
  have hX : TrTx x ts nsx := ⟨hx.num, hgood, ⟨(hx.sn (by omega)).ok, by have := (hx.sn (by omega)).sz; omega⟩, by omega, hT⟩
  have hf12 := fit12 (txt ts) (fun i v hv => ((hT.at' i).2 v hv).2.1) hx.num
  have hhb := hbs_le hT nsx
  have hmono := fit_mono (txt ts) hx.num
  have hpos := fit_pos (txt ts) hx.num
  show WS B K _ [some (.scr ns), some (.d x), some (.d (.list (ts.map textD))), none, none, none, none, none, none, none] _
  walk_at "sn"
  refine ⟨x, ts, nsx, 50000, rfl, hX, fun o ho => ⟨_, rfl, ?_⟩⟩
  obtain ⟨lw, rfl, hlw⟩ := (ho (12 * (nsx.length : Int))).mp (hmono _ _ _ _ hf12 (Int.le_refl _) (by omega))
  have hfl : fitT (txt ts) x lw 50000 := (ho lw).mpr ⟨lw, rfl, Int.le_refl _⟩
  have hlw1 := (hpos _ _ hfl).1
  clear ho hf12
  show WS B K _ [some (.scr ns), some (.d x), some (.d (.list (ts.map textD))), some (.d (.int lw)), none, none, none, none, none, none] _
  refine ws_seq ?_
  refine ws_ifC False True ?_ (fun z => z.elim) fun _ => ?_
  · walk_at "sv"
    exact ⟨rfl, (fun hz => by have hz := of_decide_eq_true hz; omega), fun _ => trivial⟩
  walk_at "sn"
  refine ⟨ns, 3, rfl, ⟨by decide, by decide, hn⟩, fun z1 => ⟨_, rfl, ?_⟩⟩
  walk_at "sn"
  have m0 := Int.emod_nonneg z1 (show (61 : Int) ≠ 0 by decide)
  obtain ⟨W, hW, hW1, hW2⟩ : ∃ W : Int, W = (if lw + z1 % 61 < 400 then lw + z1 % 61 else 400) ∧ lw ≤ W ∧ W ≤ 400 := ⟨_, rfl, by split <;> omega, by split <;> omega⟩
  rw [← hW]
  have hFW := hmono _ _ _ _ hfl hW1 (Int.le_refl 50000)
  refine ⟨x, ts, nsx, W, rfl, hX, fun o ho => ⟨_, rfl, ?_⟩⟩
  obtain ⟨h, rfl, hh⟩ := (ho 50000).mp hFW
  have hfit := (ho h).mpr ⟨h, rfl, Int.le_refl _⟩
  obtain ⟨hh1, hh2⟩ := least_le hT hx.num (by omega) ho
  show WS B K _ [some (.scr ns), some (.d x), some (.d (.list (ts.map textD))), some (.d (.int W)), some (.d (.int h)), none, none, none, none, none] _
  clear hW m0 hmono hpos hfl hFW hh hhb
  refine ws_seq ?_
  refine ws_ifC False True ?_ (fun z => z.elim) fun _ => ?_
  · walk_at "sv"
    exact ⟨rfl, (fun hz => by have hz := of_decide_eq_true hz; omega), fun _ => trivial⟩
  walk_at "sn"
  refine wd_e (we_lcL textD (fun (ws : List Str) o => o = some (textD ws)) (.name 6) ?_)
  walk_at "sn"
  refine ⟨fun ws hws B' hB' => ?_, fun ys hy => ?_⟩
  · show WG B' K _ (.list (ws.map .str)) _ _
    walk_at "sv"
    rfl
  have ey := Sel.map (f := textD) hy
  subst ey
  refine ⟨_, rfl, ?_⟩
  walk_at "sn"
  refine ⟨x, ts, nsx, W, h, rfl, ⟨hX, hp, hfit⟩, ⟨_, rfl, ?_⟩⟩
  rw [show (ixs 0 ts.length).map (fun i => pcD (pieceOf (setT (txt ts) x (0, 0, W, h)) i)) = ((ixs 0 ts.length).map (pieceOf (setT (txt ts) x (0, 0, W, h)))).map pcD by rw [List.map_map]; rfl]
  walk_at "sn"
  refine ⟨x, ts, nsx, W, h, rfl, ⟨hX, hp, hfit, hW2, hh1, hh2⟩, ⟨_, rfl, ?_⟩⟩
  have hdm := pagM_dm hT x ts.length W h ts.length
  obtain ⟨M, hM⟩ : ∃ M, M = pagM (txt ts) x ts.length W h ts.length := ⟨_, rfl⟩
  rw [← hM] at hdm ⊢
  have hRs : M.map (fun row => PyData.str (rowJ row)) = (M.map rowJ).map .str := by rw [List.map_map]; rfl
  rw [hRs]
  have hso : ∀ z, z ∈ M.map rowJ → PyData.strOk z = true := fun z hz => by
    obtain ⟨row, hr, rfl⟩ := List.mem_map.mp hz
    exact rowJ_ok (hdm.w row hr).2
  have hRl : 0 < (M.map rowJ).length ∧ (M.map rowJ).length ≤ 984 := by rw [List.length_map, hdm.h]; omega
  obtain ⟨Rw, hRw⟩ : ∃ Rw, Rw = M.map rowJ := ⟨_, rfl⟩
  have hPr : ∀ (Po' : R → List PyData → Prop) Pe', Po' (.new (Rw.map .str)) [] → G_printed [.d x, .d (.list (ts.map textD)), .d (.int W)] Po' Pe' := fun Po' Pe' k => ⟨x, ts, nsx, W, h, rfl, ⟨hX, hp, ho, hW2⟩, by rw [← hM, hRs, ← hRw]; exact k⟩
  rw [← hRw] at hso hRl ⊢
  clear hRw hRs hdm hM hX hp ho hfit hh1 hh2 hW2 hW1 hgood hx
  have okt : OkD 60 (.list (ts.map textD)) := .list fun y hy => by
    obtain ⟨ws, hws, rfl⟩ := List.mem_map.mp hy
    exact OkD.strs fun v hv => strOk_word (hT.w ws hws v hv)
  have nbt : noB (.list (ts.map textD)) = true := by
    show noBs (ts.map textD) = true
    refine noBs_of fun y hy => ?_
    obtain ⟨ws, hws, rfl⟩ := List.mem_map.mp hy
    exact noB_strs ws
  have eqt : PyData.eqv (.list (ts.map textD)) (.list (ts.map textD)) = true := (eqv_iff nbt nbt).mpr rfl
  have eqR : PyData.eqv (.list (Rw.map .str)) (.list (Rw.map .str)) = true := (eqv_iff (noB_strs _) (noB_strs _)).mpr rfl
  have okR : OkD 60 (.list (Rw.map .str)) := OkD.strs hso
  show WS B K _ [some (.scr ns), some (.d x), some (.d (.list (ts.map textD))), some (.d (.int W)), some (.d (.int h)), some (.d (.list (ts.map textD))), none, some (.d (.list (Rw.map .str))), none, none] _
  walk_at "sn"
  refine hPr _ _ ⟨_, rfl, ?_⟩
  show WS B K _ [some (.scr ns), some (.d x), some (.d (.list (ts.map textD))), some (.d (.int W)), some (.d (.int h)), some (.d (.list (ts.map textD))), none, some (.d (.list (Rw.map .str))), some (.own (Rw.map .str)), none] _
  refine ws_seq ?_
  refine ws_ifC False True ?_ (fun z => z.elim) fun _ => ?_
  · walk_at "sv"
    · exact ⟨rfl, (fun hz => by rw [eqt] at hz; cases hz), fun _ => trivial⟩
    · exact absurd rfl (by assumption)
  walk_at "sn"
  refine ws_deep (j := 8) rfl (np_of hB (by decide)) fun a0 => ?_
  refine ws_forP (i := 9) (j := 8) (a := a0) (ts := (Rw.map PyData.str).map .d) (np_of hB (by decide)) rfl (fun pre ρ' => ∃ o9 : Option L, ρ' = [some (.scr ns), some (.d x), some (.d (.list (ts.map textD))), some (.d (.int W)), some (.d (.int h)), some (.d (.list (ts.map textD))), none, some (.d (.list (Rw.map .str))), some (.deep (.lst a0 ((Rw.map PyData.str).map .d))), o9]) (fun pre ρ' hI => by obtain ⟨_, rfl⟩ := hI; rfl) ⟨_, rfl⟩ (fun pre u post ρ2 l hu hI hl => ?_) fun ρ2 hI => ?_
  · obtain ⟨o9, rfl⟩ := hI
    obtain ⟨z, rfl⟩ : ∃ z : Str, u = .d (.str z) := by
      have hm : u ∈ (Rw.map PyData.str).map OT.d := by rw [hu]; simp
      obtain ⟨y, hy, rfl⟩ := List.mem_map.mp hm
      obtain ⟨p, _, rfl⟩ := List.mem_map.mp hy
      exact ⟨p, rfl⟩
    cases hl
    walk_at "sv"
    exact ⟨_, rfl⟩
  · obtain ⟨o9, rfl⟩ := hI
    show WS B K (tSeq _ _) [some (.scr ns), some (.d x), some (.d (.list (ts.map textD))), some (.d (.int W)), some (.d (.int h)), some (.d (.list (ts.map textD))), none, some (.d (.list (Rw.map .str))), some (.deep (.lst a0 ((Rw.map PyData.str).map .d))), o9] _
    refine ws_flat (j := 8) (a := a0) (xs := Rw.map PyData.str) rfl (np_of hB (by decide)) ?_
    show WS B K _ [some (.scr ns), some (.d x), some (.d (.list (ts.map textD))), some (.d (.int W)), some (.d (.int h)), some (.d (.list (ts.map textD))), none, some (.d (.list (Rw.map .str))), some (.own (Rw.map .str)), o9] _
    walk_at "sn"
    refine ⟨_, 0, 0, rfl, rfl, ?_, ?_⟩
    · unfold ixN
      rw [if_pos (by decide), if_pos (by rw [List.length_map]; omega)]
      rfl
    walk_at "sn"
    refine ⟨by rw [List.length_set, List.length_map]; show Rw.length < 1000000; omega, ?_⟩
    walk_at "sn"
    refine hPr _ _ ⟨_, rfl, ?_⟩
    walk_at "sn"
    rw [eqR]
    exact q


end
theorem all_mk {l : PySem.W.OpenLaw} {w : World} {K : Fr} {h : Heap} {mg : Str → Option Value} {fa : Addr} (X : K.In h) (G : h.Ns mainGlobals mg) (hfa : mg "law" = some (.ref fa))
    {t_MOST_SIGNS : Tok}
    {t_SIGNS : Tok}
    {t_MOST_BOXES : Tok}
    {t_MOST_WORDS : Tok}
    {t_MOST_WIDE : Tok}
    {a_PartError : Addr}
    {a_NoTree : Addr}
    {a_NoTexts : Addr}
    {a_NoRoom : Addr}
    {f_is_word : Addr} {od_is_word an_is_word : Option Addr} {sl_is_word : Array (Option Value)} {oc_is_word kV_is_word dc_is_word pm_is_word cd_is_word ct_is_word : Value}
    {f_need_words : Addr} {od_need_words an_need_words : Option Addr} {sl_need_words : Array (Option Value)} {oc_need_words kV_need_words dc_need_words pm_need_words cd_need_words ct_need_words : Value}
    {f_put_word : Addr} {od_put_word an_put_word : Option Addr} {sl_put_word : Array (Option Value)} {oc_put_word kV_put_word dc_put_word pm_put_word cd_put_word ct_put_word : Value}
    {f_lines : Addr} {od_lines an_lines : Option Addr} {sl_lines : Array (Option Value)} {oc_lines kV_lines dc_lines pm_lines cd_lines ct_lines : Value}
    {f_taken : Addr} {od_taken an_taken : Option Addr} {sl_taken : Array (Option Value)} {oc_taken kV_taken dc_taken pm_taken cd_taken ct_taken : Value}
    {f_next_stair : Addr} {od_next_stair an_next_stair : Option Addr} {sl_next_stair : Array (Option Value)} {oc_next_stair kV_next_stair dc_next_stair pm_next_stair cd_next_stair ct_next_stair : Value}
    {f_text_stairs : Addr} {od_text_stairs an_text_stairs : Option Addr} {sl_text_stairs : Array (Option Value)} {oc_text_stairs kV_text_stairs dc_text_stairs pm_text_stairs cd_text_stairs ct_text_stairs : Value}
    {f_is_whole : Addr} {od_is_whole an_is_whole : Option Addr} {sl_is_whole : Array (Option Value)} {oc_is_whole kV_is_whole dc_is_whole pm_is_whole cd_is_whole ct_is_whole : Value}
    {f_is_tree : Addr} {od_is_tree an_is_tree : Option Addr} {sl_is_tree : Array (Option Value)} {oc_is_tree kV_is_tree dc_is_tree pm_is_tree cd_is_tree ct_is_tree : Value}
    {f_need_tree : Addr} {od_need_tree an_need_tree : Option Addr} {sl_need_tree : Array (Option Value)} {oc_need_tree kV_need_tree dc_need_tree pm_need_tree cd_need_tree ct_need_tree : Value}
    {f_count_boxes : Addr} {od_count_boxes an_count_boxes : Option Addr} {sl_count_boxes : Array (Option Value)} {oc_count_boxes kV_count_boxes dc_count_boxes pm_count_boxes cd_count_boxes ct_count_boxes : Value}
    {f_boxes_of : Addr} {od_boxes_of an_boxes_of : Option Addr} {sl_boxes_of : Array (Option Value)} {oc_boxes_of kV_boxes_of dc_boxes_of pm_boxes_of cd_boxes_of ct_boxes_of : Value}
    {f_joined : Addr} {od_joined an_joined : Option Addr} {sl_joined : Array (Option Value)} {oc_joined kV_joined dc_joined pm_joined cd_joined ct_joined : Value}
    {f_stairs_by : Addr} {od_stairs_by an_stairs_by : Option Addr} {sl_stairs_by : Array (Option Value)} {oc_stairs_by kV_stairs_by dc_stairs_by pm_stairs_by cd_stairs_by ct_stairs_by : Value}
    {f_measured : Addr} {od_measured an_measured : Option Addr} {sl_measured : Array (Option Value)} {oc_measured kV_measured dc_measured pm_measured cd_measured ct_measured : Value}
    {f_need_measured : Addr} {od_need_measured an_need_measured : Option Addr} {sl_need_measured : Array (Option Value)} {oc_need_measured kV_need_measured dc_need_measured pm_need_measured cd_need_measured ct_need_measured : Value}
    {f_tree_stairs : Addr} {od_tree_stairs an_tree_stairs : Option Addr} {sl_tree_stairs : Array (Option Value)} {oc_tree_stairs kV_tree_stairs dc_tree_stairs pm_tree_stairs cd_tree_stairs ct_tree_stairs : Value}
    {f_high_for : Addr} {od_high_for an_high_for : Option Addr} {sl_high_for : Array (Option Value)} {oc_high_for kV_high_for dc_high_for pm_high_for cd_high_for ct_high_for : Value}
    {f_wide_for : Addr} {od_wide_for an_wide_for : Option Addr} {sl_wide_for : Array (Option Value)} {oc_wide_for kV_wide_for dc_wide_for pm_wide_for cd_wide_for ct_wide_for : Value}
    {f_least_high : Addr} {od_least_high an_least_high : Option Addr} {sl_least_high : Array (Option Value)} {oc_least_high kV_least_high dc_least_high pm_least_high cd_least_high ct_least_high : Value}
    {f_least_wide : Addr} {od_least_wide an_least_wide : Option Addr} {sl_least_wide : Array (Option Value)} {oc_least_wide kV_least_wide dc_least_wide pm_least_wide cd_least_wide ct_least_wide : Value}
    {f_laid_beside : Addr} {od_laid_beside an_laid_beside : Option Addr} {sl_laid_beside : Array (Option Value)} {oc_laid_beside kV_laid_beside dc_laid_beside pm_laid_beside cd_laid_beside ct_laid_beside : Value}
    {f_laid_beneath : Addr} {od_laid_beneath an_laid_beneath : Option Addr} {sl_laid_beneath : Array (Option Value)} {oc_laid_beneath kV_laid_beneath dc_laid_beneath pm_laid_beneath cd_laid_beneath ct_laid_beneath : Value}
    {f_setting : Addr} {od_setting an_setting : Option Addr} {sl_setting : Array (Option Value)} {oc_setting kV_setting dc_setting pm_setting cd_setting ct_setting : Value}
    {f_printed : Addr} {od_printed an_printed : Option Addr} {sl_printed : Array (Option Value)} {oc_printed kV_printed dc_printed pm_printed cd_printed ct_printed : Value}
    {f_law_stir : Addr} {od_law_stir an_law_stir : Option Addr} {sl_law_stir : Array (Option Value)} {oc_law_stir kV_law_stir dc_law_stir pm_law_stir cd_law_stir ct_law_stir : Value}
    {f_law_cell : Addr} {od_law_cell an_law_cell : Option Addr} {sl_law_cell : Array (Option Value)} {oc_law_cell kV_law_cell dc_law_cell pm_law_cell cd_law_cell ct_law_cell : Value}
    {f_law_lack : Addr} {od_law_lack an_law_lack : Option Addr} {sl_law_lack : Array (Option Value)} {oc_law_lack kV_law_lack dc_law_lack pm_law_lack cd_law_lack ct_law_lack : Value}
    {f_law_shape : Addr} {od_law_shape an_law_shape : Option Addr} {sl_law_shape : Array (Option Value)} {oc_law_shape kV_law_shape dc_law_shape pm_law_shape cd_law_shape ct_law_shape : Value}
    {f_law_count : Addr} {od_law_count an_law_count : Option Addr} {sl_law_count : Array (Option Value)} {oc_law_count kV_law_count dc_law_count pm_law_count cd_law_count ct_law_count : Value}
    {f_law_numbered : Addr} {od_law_numbered an_law_numbered : Option Addr} {sl_law_numbered : Array (Option Value)} {oc_law_numbered kV_law_numbered dc_law_numbered pm_law_numbered cd_law_numbered ct_law_numbered : Value}
    {f_law_tree : Addr} {od_law_tree an_law_tree : Option Addr} {sl_law_tree : Array (Option Value)} {oc_law_tree kV_law_tree dc_law_tree pm_law_tree cd_law_tree ct_law_tree : Value}
    {f_law_word : Addr} {od_law_word an_law_word : Option Addr} {sl_law_word : Array (Option Value)} {oc_law_word kV_law_word dc_law_word pm_law_word cd_law_word ct_law_word : Value}
    {f_law_texts : Addr} {od_law_texts an_law_texts : Option Addr} {sl_law_texts : Array (Option Value)} {oc_law_texts kV_law_texts dc_law_texts pm_law_texts cd_law_texts ct_law_texts : Value}
    {f_law_due : Addr} {od_law_due an_law_due : Option Addr} {sl_law_due : Array (Option Value)} {oc_law_due kV_law_due dc_law_due pm_law_due cd_law_due ct_law_due : Value}
    {f_law : Addr} {od_law an_law : Option Addr} {sl_law : Array (Option Value)} {oc_law kV_law dc_law pm_law cd_law ct_law : Value}
    (z_ValueError : PySem.W.nsIn K mainGlobals "ValueError" = some none)
    (z_bool : PySem.W.nsIn K mainGlobals "bool" = some none)
    (z_enumerate : PySem.W.nsIn K mainGlobals "enumerate" = some none)
    (z_int : PySem.W.nsIn K mainGlobals "int" = some none)
    (z_isinstance : PySem.W.nsIn K mainGlobals "isinstance" = some none)
    (z_len : PySem.W.nsIn K mainGlobals "len" = some none)
    (z_list : PySem.W.nsIn K mainGlobals "list" = some none)
    (z_max : PySem.W.nsIn K mainGlobals "max" = some none)
    (z_min : PySem.W.nsIn K mainGlobals "min" = some none)
    (z_range : PySem.W.nsIn K mainGlobals "range" = some none)
    (z_sorted : PySem.W.nsIn K mainGlobals "sorted" = some none)
    (z_str : PySem.W.nsIn K mainGlobals "str" = some none)
    (z_sum : PySem.W.nsIn K mainGlobals "sum" = some none)
    (z_tuple : PySem.W.nsIn K mainGlobals "tuple" = some none)
    (z_zip : PySem.W.nsIn K mainGlobals "zip" = some none)
    (c_MOST_SIGNS : PySem.W.nsIn K mainGlobals "MOST_SIGNS" = some (some (.int 12 t_MOST_SIGNS)))
    (c_SIGNS : PySem.W.nsIn K mainGlobals "SIGNS" = some (some (.str "!\"#$&'()*+,-./0123456789:;<=>?@ABCDEFGHIJKLMNOPQRSTUVWXYZ[\\]^_`abcdefghijklmnopqrstuvwxyz{|}~" t_SIGNS)))
    (c_MOST_BOXES : PySem.W.nsIn K mainGlobals "MOST_BOXES" = some (some (.int 24 t_MOST_BOXES)))
    (c_MOST_WORDS : PySem.W.nsIn K mainGlobals "MOST_WORDS" = some (some (.int 40 t_MOST_WORDS)))
    (c_MOST_WIDE : PySem.W.nsIn K mainGlobals "MOST_WIDE" = some (some (.int 400 t_MOST_WIDE)))
    (n_PartError : PySem.W.nsIn K mainGlobals "PartError" = some (some (.ref a_PartError)))
    (x_PartError : PySem.W.excIn K a_PartError veX "ValueError.__new__" = true)
    (k_PartError : PySem.W.keepIn K (.ref a_PartError) = true)
    (s_PartError : PySem.W.subIn K (.ref a_PartError) (.type "BaseException") = some true)
    (y_PartError : PySem.W.typeIn K (.ref a_PartError) = some (.type "type"))
    (n_NoTree : PySem.W.nsIn K mainGlobals "NoTree" = some (some (.ref a_NoTree)))
    (x_NoTree : PySem.W.excIn K a_NoTree veX "ValueError.__new__" = true)
    (k_NoTree : PySem.W.keepIn K (.ref a_NoTree) = true)
    (s_NoTree : PySem.W.subIn K (.ref a_NoTree) (.type "BaseException") = some true)
    (y_NoTree : PySem.W.typeIn K (.ref a_NoTree) = some (.type "type"))
    (n_NoTexts : PySem.W.nsIn K mainGlobals "NoTexts" = some (some (.ref a_NoTexts)))
    (x_NoTexts : PySem.W.excIn K a_NoTexts veX "ValueError.__new__" = true)
    (k_NoTexts : PySem.W.keepIn K (.ref a_NoTexts) = true)
    (s_NoTexts : PySem.W.subIn K (.ref a_NoTexts) (.type "BaseException") = some true)
    (y_NoTexts : PySem.W.typeIn K (.ref a_NoTexts) = some (.type "type"))
    (n_NoRoom : PySem.W.nsIn K mainGlobals "NoRoom" = some (some (.ref a_NoRoom)))
    (x_NoRoom : PySem.W.excIn K a_NoRoom veX "ValueError.__new__" = true)
    (k_NoRoom : PySem.W.keepIn K (.ref a_NoRoom) = true)
    (s_NoRoom : PySem.W.subIn K (.ref a_NoRoom) (.type "BaseException") = some true)
    (y_NoRoom : PySem.W.typeIn K (.ref a_NoRoom) = some (.type "type"))
    (n_is_word : PySem.W.nsIn K mainGlobals "is_word" = some (some (.ref f_is_word)))
    (l_is_word : K.lookup f_is_word = some ⟨oc_is_word, od_is_word, .func (PySem.W.fnOf "is_word" "is_word" (defArgs s_is_word) (defBody s_is_word) (defScope s_is_word) .none kV_is_word dc_is_word pm_is_word an_is_word cd_is_word ct_is_word), sl_is_word⟩)
    (c_is_word : PySem.W.codeIn K cd_is_word "is_word" = true)
    (k_is_word : PySem.W.keepIn K (.ref f_is_word) = true)
    (n_need_words : PySem.W.nsIn K mainGlobals "need_words" = some (some (.ref f_need_words)))
    (l_need_words : K.lookup f_need_words = some ⟨oc_need_words, od_need_words, .func (PySem.W.fnOf "need_words" "need_words" (defArgs s_need_words) (defBody s_need_words) (defScope s_need_words) .none kV_need_words dc_need_words pm_need_words an_need_words cd_need_words ct_need_words), sl_need_words⟩)
    (c_need_words : PySem.W.codeIn K cd_need_words "need_words" = true)
    (k_need_words : PySem.W.keepIn K (.ref f_need_words) = true)
    (n_put_word : PySem.W.nsIn K mainGlobals "put_word" = some (some (.ref f_put_word)))
    (l_put_word : K.lookup f_put_word = some ⟨oc_put_word, od_put_word, .func (PySem.W.fnOf "put_word" "put_word" (defArgs s_put_word) (defBody s_put_word) (defScope s_put_word) .none kV_put_word dc_put_word pm_put_word an_put_word cd_put_word ct_put_word), sl_put_word⟩)
    (c_put_word : PySem.W.codeIn K cd_put_word "put_word" = true)
    (k_put_word : PySem.W.keepIn K (.ref f_put_word) = true)
    (n_lines : PySem.W.nsIn K mainGlobals "lines" = some (some (.ref f_lines)))
    (l_lines : K.lookup f_lines = some ⟨oc_lines, od_lines, .func (PySem.W.fnOf "lines" "lines" (defArgs s_lines) (defBody s_lines) (defScope s_lines) .none kV_lines dc_lines pm_lines an_lines cd_lines ct_lines), sl_lines⟩)
    (c_lines : PySem.W.codeIn K cd_lines "lines" = true)
    (k_lines : PySem.W.keepIn K (.ref f_lines) = true)
    (n_taken : PySem.W.nsIn K mainGlobals "taken" = some (some (.ref f_taken)))
    (l_taken : K.lookup f_taken = some ⟨oc_taken, od_taken, .func (PySem.W.fnOf "taken" "taken" (defArgs s_taken) (defBody s_taken) (defScope s_taken) .none kV_taken dc_taken pm_taken an_taken cd_taken ct_taken), sl_taken⟩)
    (c_taken : PySem.W.codeIn K cd_taken "taken" = true)
    (k_taken : PySem.W.keepIn K (.ref f_taken) = true)
    (n_next_stair : PySem.W.nsIn K mainGlobals "next_stair" = some (some (.ref f_next_stair)))
    (l_next_stair : K.lookup f_next_stair = some ⟨oc_next_stair, od_next_stair, .func (PySem.W.fnOf "next_stair" "next_stair" (defArgs s_next_stair) (defBody s_next_stair) (defScope s_next_stair) .none kV_next_stair dc_next_stair pm_next_stair an_next_stair cd_next_stair ct_next_stair), sl_next_stair⟩)
    (c_next_stair : PySem.W.codeIn K cd_next_stair "next_stair" = true)
    (k_next_stair : PySem.W.keepIn K (.ref f_next_stair) = true)
    (n_text_stairs : PySem.W.nsIn K mainGlobals "text_stairs" = some (some (.ref f_text_stairs)))
    (l_text_stairs : K.lookup f_text_stairs = some ⟨oc_text_stairs, od_text_stairs, .func (PySem.W.fnOf "text_stairs" "text_stairs" (defArgs s_text_stairs) (defBody s_text_stairs) (defScope s_text_stairs) .none kV_text_stairs dc_text_stairs pm_text_stairs an_text_stairs cd_text_stairs ct_text_stairs), sl_text_stairs⟩)
    (c_text_stairs : PySem.W.codeIn K cd_text_stairs "text_stairs" = true)
    (k_text_stairs : PySem.W.keepIn K (.ref f_text_stairs) = true)
    (n_is_whole : PySem.W.nsIn K mainGlobals "is_whole" = some (some (.ref f_is_whole)))
    (l_is_whole : K.lookup f_is_whole = some ⟨oc_is_whole, od_is_whole, .func (PySem.W.fnOf "is_whole" "is_whole" (defArgs s_is_whole) (defBody s_is_whole) (defScope s_is_whole) .none kV_is_whole dc_is_whole pm_is_whole an_is_whole cd_is_whole ct_is_whole), sl_is_whole⟩)
    (c_is_whole : PySem.W.codeIn K cd_is_whole "is_whole" = true)
    (k_is_whole : PySem.W.keepIn K (.ref f_is_whole) = true)
    (n_is_tree : PySem.W.nsIn K mainGlobals "is_tree" = some (some (.ref f_is_tree)))
    (l_is_tree : K.lookup f_is_tree = some ⟨oc_is_tree, od_is_tree, .func (PySem.W.fnOf "is_tree" "is_tree" (defArgs s_is_tree) (defBody s_is_tree) (defScope s_is_tree) .none kV_is_tree dc_is_tree pm_is_tree an_is_tree cd_is_tree ct_is_tree), sl_is_tree⟩)
    (c_is_tree : PySem.W.codeIn K cd_is_tree "is_tree" = true)
    (k_is_tree : PySem.W.keepIn K (.ref f_is_tree) = true)
    (n_need_tree : PySem.W.nsIn K mainGlobals "need_tree" = some (some (.ref f_need_tree)))
    (l_need_tree : K.lookup f_need_tree = some ⟨oc_need_tree, od_need_tree, .func (PySem.W.fnOf "need_tree" "need_tree" (defArgs s_need_tree) (defBody s_need_tree) (defScope s_need_tree) .none kV_need_tree dc_need_tree pm_need_tree an_need_tree cd_need_tree ct_need_tree), sl_need_tree⟩)
    (c_need_tree : PySem.W.codeIn K cd_need_tree "need_tree" = true)
    (k_need_tree : PySem.W.keepIn K (.ref f_need_tree) = true)
    (n_count_boxes : PySem.W.nsIn K mainGlobals "count_boxes" = some (some (.ref f_count_boxes)))
    (l_count_boxes : K.lookup f_count_boxes = some ⟨oc_count_boxes, od_count_boxes, .func (PySem.W.fnOf "count_boxes" "count_boxes" (defArgs s_count_boxes) (defBody s_count_boxes) (defScope s_count_boxes) .none kV_count_boxes dc_count_boxes pm_count_boxes an_count_boxes cd_count_boxes ct_count_boxes), sl_count_boxes⟩)
    (c_count_boxes : PySem.W.codeIn K cd_count_boxes "count_boxes" = true)
    (k_count_boxes : PySem.W.keepIn K (.ref f_count_boxes) = true)
    (n_boxes_of : PySem.W.nsIn K mainGlobals "boxes_of" = some (some (.ref f_boxes_of)))
    (l_boxes_of : K.lookup f_boxes_of = some ⟨oc_boxes_of, od_boxes_of, .func (PySem.W.fnOf "boxes_of" "boxes_of" (defArgs s_boxes_of) (defBody s_boxes_of) (defScope s_boxes_of) .none kV_boxes_of dc_boxes_of pm_boxes_of an_boxes_of cd_boxes_of ct_boxes_of), sl_boxes_of⟩)
    (c_boxes_of : PySem.W.codeIn K cd_boxes_of "boxes_of" = true)
    (k_boxes_of : PySem.W.keepIn K (.ref f_boxes_of) = true)
    (n_joined : PySem.W.nsIn K mainGlobals "joined" = some (some (.ref f_joined)))
    (l_joined : K.lookup f_joined = some ⟨oc_joined, od_joined, .func (PySem.W.fnOf "joined" "joined" (defArgs s_joined) (defBody s_joined) (defScope s_joined) .none kV_joined dc_joined pm_joined an_joined cd_joined ct_joined), sl_joined⟩)
    (c_joined : PySem.W.codeIn K cd_joined "joined" = true)
    (k_joined : PySem.W.keepIn K (.ref f_joined) = true)
    (n_stairs_by : PySem.W.nsIn K mainGlobals "stairs_by" = some (some (.ref f_stairs_by)))
    (l_stairs_by : K.lookup f_stairs_by = some ⟨oc_stairs_by, od_stairs_by, .func (PySem.W.fnOf "stairs_by" "stairs_by" (defArgs s_stairs_by) (defBody s_stairs_by) (defScope s_stairs_by) .none kV_stairs_by dc_stairs_by pm_stairs_by an_stairs_by cd_stairs_by ct_stairs_by), sl_stairs_by⟩)
    (c_stairs_by : PySem.W.codeIn K cd_stairs_by "stairs_by" = true)
    (k_stairs_by : PySem.W.keepIn K (.ref f_stairs_by) = true)
    (n_measured : PySem.W.nsIn K mainGlobals "measured" = some (some (.ref f_measured)))
    (l_measured : K.lookup f_measured = some ⟨oc_measured, od_measured, .func (PySem.W.fnOf "measured" "measured" (defArgs s_measured) (defBody s_measured) (defScope s_measured) .none kV_measured dc_measured pm_measured an_measured cd_measured ct_measured), sl_measured⟩)
    (c_measured : PySem.W.codeIn K cd_measured "measured" = true)
    (k_measured : PySem.W.keepIn K (.ref f_measured) = true)
    (n_need_measured : PySem.W.nsIn K mainGlobals "need_measured" = some (some (.ref f_need_measured)))
    (l_need_measured : K.lookup f_need_measured = some ⟨oc_need_measured, od_need_measured, .func (PySem.W.fnOf "need_measured" "need_measured" (defArgs s_need_measured) (defBody s_need_measured) (defScope s_need_measured) .none kV_need_measured dc_need_measured pm_need_measured an_need_measured cd_need_measured ct_need_measured), sl_need_measured⟩)
    (c_need_measured : PySem.W.codeIn K cd_need_measured "need_measured" = true)
    (k_need_measured : PySem.W.keepIn K (.ref f_need_measured) = true)
    (n_tree_stairs : PySem.W.nsIn K mainGlobals "tree_stairs" = some (some (.ref f_tree_stairs)))
    (l_tree_stairs : K.lookup f_tree_stairs = some ⟨oc_tree_stairs, od_tree_stairs, .func (PySem.W.fnOf "tree_stairs" "tree_stairs" (defArgs s_tree_stairs) (defBody s_tree_stairs) (defScope s_tree_stairs) .none kV_tree_stairs dc_tree_stairs pm_tree_stairs an_tree_stairs cd_tree_stairs ct_tree_stairs), sl_tree_stairs⟩)
    (c_tree_stairs : PySem.W.codeIn K cd_tree_stairs "tree_stairs" = true)
    (k_tree_stairs : PySem.W.keepIn K (.ref f_tree_stairs) = true)
    (n_high_for : PySem.W.nsIn K mainGlobals "high_for" = some (some (.ref f_high_for)))
    (l_high_for : K.lookup f_high_for = some ⟨oc_high_for, od_high_for, .func (PySem.W.fnOf "high_for" "high_for" (defArgs s_high_for) (defBody s_high_for) (defScope s_high_for) .none kV_high_for dc_high_for pm_high_for an_high_for cd_high_for ct_high_for), sl_high_for⟩)
    (c_high_for : PySem.W.codeIn K cd_high_for "high_for" = true)
    (k_high_for : PySem.W.keepIn K (.ref f_high_for) = true)
    (n_wide_for : PySem.W.nsIn K mainGlobals "wide_for" = some (some (.ref f_wide_for)))
    (l_wide_for : K.lookup f_wide_for = some ⟨oc_wide_for, od_wide_for, .func (PySem.W.fnOf "wide_for" "wide_for" (defArgs s_wide_for) (defBody s_wide_for) (defScope s_wide_for) .none kV_wide_for dc_wide_for pm_wide_for an_wide_for cd_wide_for ct_wide_for), sl_wide_for⟩)
    (c_wide_for : PySem.W.codeIn K cd_wide_for "wide_for" = true)
    (k_wide_for : PySem.W.keepIn K (.ref f_wide_for) = true)
    (n_least_high : PySem.W.nsIn K mainGlobals "least_high" = some (some (.ref f_least_high)))
    (l_least_high : K.lookup f_least_high = some ⟨oc_least_high, od_least_high, .func (PySem.W.fnOf "least_high" "least_high" (defArgs s_least_high) (defBody s_least_high) (defScope s_least_high) .none kV_least_high dc_least_high pm_least_high an_least_high cd_least_high ct_least_high), sl_least_high⟩)
    (c_least_high : PySem.W.codeIn K cd_least_high "least_high" = true)
    (k_least_high : PySem.W.keepIn K (.ref f_least_high) = true)
    (n_least_wide : PySem.W.nsIn K mainGlobals "least_wide" = some (some (.ref f_least_wide)))
    (l_least_wide : K.lookup f_least_wide = some ⟨oc_least_wide, od_least_wide, .func (PySem.W.fnOf "least_wide" "least_wide" (defArgs s_least_wide) (defBody s_least_wide) (defScope s_least_wide) .none kV_least_wide dc_least_wide pm_least_wide an_least_wide cd_least_wide ct_least_wide), sl_least_wide⟩)
    (c_least_wide : PySem.W.codeIn K cd_least_wide "least_wide" = true)
    (k_least_wide : PySem.W.keepIn K (.ref f_least_wide) = true)
    (n_laid_beside : PySem.W.nsIn K mainGlobals "laid_beside" = some (some (.ref f_laid_beside)))
    (l_laid_beside : K.lookup f_laid_beside = some ⟨oc_laid_beside, od_laid_beside, .func (PySem.W.fnOf "laid_beside" "laid_beside" (defArgs s_laid_beside) (defBody s_laid_beside) (defScope s_laid_beside) .none kV_laid_beside dc_laid_beside pm_laid_beside an_laid_beside cd_laid_beside ct_laid_beside), sl_laid_beside⟩)
    (c_laid_beside : PySem.W.codeIn K cd_laid_beside "laid_beside" = true)
    (k_laid_beside : PySem.W.keepIn K (.ref f_laid_beside) = true)
    (n_laid_beneath : PySem.W.nsIn K mainGlobals "laid_beneath" = some (some (.ref f_laid_beneath)))
    (l_laid_beneath : K.lookup f_laid_beneath = some ⟨oc_laid_beneath, od_laid_beneath, .func (PySem.W.fnOf "laid_beneath" "laid_beneath" (defArgs s_laid_beneath) (defBody s_laid_beneath) (defScope s_laid_beneath) .none kV_laid_beneath dc_laid_beneath pm_laid_beneath an_laid_beneath cd_laid_beneath ct_laid_beneath), sl_laid_beneath⟩)
    (c_laid_beneath : PySem.W.codeIn K cd_laid_beneath "laid_beneath" = true)
    (k_laid_beneath : PySem.W.keepIn K (.ref f_laid_beneath) = true)
    (n_setting : PySem.W.nsIn K mainGlobals "setting" = some (some (.ref f_setting)))
    (l_setting : K.lookup f_setting = some ⟨oc_setting, od_setting, .func (PySem.W.fnOf "setting" "setting" (defArgs s_setting) (defBody s_setting) (defScope s_setting) .none kV_setting dc_setting pm_setting an_setting cd_setting ct_setting), sl_setting⟩)
    (c_setting : PySem.W.codeIn K cd_setting "setting" = true)
    (k_setting : PySem.W.keepIn K (.ref f_setting) = true)
    (n_printed : PySem.W.nsIn K mainGlobals "printed" = some (some (.ref f_printed)))
    (l_printed : K.lookup f_printed = some ⟨oc_printed, od_printed, .func (PySem.W.fnOf "printed" "printed" (defArgs s_printed) (defBody s_printed) (defScope s_printed) .none kV_printed dc_printed pm_printed an_printed cd_printed ct_printed), sl_printed⟩)
    (c_printed : PySem.W.codeIn K cd_printed "printed" = true)
    (k_printed : PySem.W.keepIn K (.ref f_printed) = true)
    (n_law_stir : PySem.W.nsIn K mainGlobals "_law_stir" = some (some (.ref f_law_stir)))
    (l_law_stir : K.lookup f_law_stir = some ⟨oc_law_stir, od_law_stir, .func (PySem.W.fnOf "_law_stir" "_law_stir" (defArgs s_law_stir) (defBody s_law_stir) (defScope s_law_stir) .none kV_law_stir dc_law_stir pm_law_stir an_law_stir cd_law_stir ct_law_stir), sl_law_stir⟩)
    (c_law_stir : PySem.W.codeIn K cd_law_stir "_law_stir" = true)
    (k_law_stir : PySem.W.keepIn K (.ref f_law_stir) = true)
    (n_law_cell : PySem.W.nsIn K mainGlobals "_law_cell" = some (some (.ref f_law_cell)))
    (l_law_cell : K.lookup f_law_cell = some ⟨oc_law_cell, od_law_cell, .func (PySem.W.fnOf "_law_cell" "_law_cell" (defArgs s_law_cell) (defBody s_law_cell) (defScope s_law_cell) .none kV_law_cell dc_law_cell pm_law_cell an_law_cell cd_law_cell ct_law_cell), sl_law_cell⟩)
    (c_law_cell : PySem.W.codeIn K cd_law_cell "_law_cell" = true)
    (k_law_cell : PySem.W.keepIn K (.ref f_law_cell) = true)
    (n_law_lack : PySem.W.nsIn K mainGlobals "_law_lack" = some (some (.ref f_law_lack)))
    (l_law_lack : K.lookup f_law_lack = some ⟨oc_law_lack, od_law_lack, .func (PySem.W.fnOf "_law_lack" "_law_lack" (defArgs s_law_lack) (defBody s_law_lack) (defScope s_law_lack) .none kV_law_lack dc_law_lack pm_law_lack an_law_lack cd_law_lack ct_law_lack), sl_law_lack⟩)
    (c_law_lack : PySem.W.codeIn K cd_law_lack "_law_lack" = true)
    (k_law_lack : PySem.W.keepIn K (.ref f_law_lack) = true)
    (n_law_shape : PySem.W.nsIn K mainGlobals "_law_shape" = some (some (.ref f_law_shape)))
    (l_law_shape : K.lookup f_law_shape = some ⟨oc_law_shape, od_law_shape, .func (PySem.W.fnOf "_law_shape" "_law_shape" (defArgs s_law_shape) (defBody s_law_shape) (defScope s_law_shape) .none kV_law_shape dc_law_shape pm_law_shape an_law_shape cd_law_shape ct_law_shape), sl_law_shape⟩)
    (c_law_shape : PySem.W.codeIn K cd_law_shape "_law_shape" = true)
    (k_law_shape : PySem.W.keepIn K (.ref f_law_shape) = true)
    (n_law_count : PySem.W.nsIn K mainGlobals "_law_count" = some (some (.ref f_law_count)))
    (l_law_count : K.lookup f_law_count = some ⟨oc_law_count, od_law_count, .func (PySem.W.fnOf "_law_count" "_law_count" (defArgs s_law_count) (defBody s_law_count) (defScope s_law_count) .none kV_law_count dc_law_count pm_law_count an_law_count cd_law_count ct_law_count), sl_law_count⟩)
    (c_law_count : PySem.W.codeIn K cd_law_count "_law_count" = true)
    (k_law_count : PySem.W.keepIn K (.ref f_law_count) = true)
    (n_law_numbered : PySem.W.nsIn K mainGlobals "_law_numbered" = some (some (.ref f_law_numbered)))
    (l_law_numbered : K.lookup f_law_numbered = some ⟨oc_law_numbered, od_law_numbered, .func (PySem.W.fnOf "_law_numbered" "_law_numbered" (defArgs s_law_numbered) (defBody s_law_numbered) (defScope s_law_numbered) .none kV_law_numbered dc_law_numbered pm_law_numbered an_law_numbered cd_law_numbered ct_law_numbered), sl_law_numbered⟩)
    (c_law_numbered : PySem.W.codeIn K cd_law_numbered "_law_numbered" = true)
    (k_law_numbered : PySem.W.keepIn K (.ref f_law_numbered) = true)
    (n_law_tree : PySem.W.nsIn K mainGlobals "_law_tree" = some (some (.ref f_law_tree)))
    (l_law_tree : K.lookup f_law_tree = some ⟨oc_law_tree, od_law_tree, .func (PySem.W.fnOf "_law_tree" "_law_tree" (defArgs s_law_tree) (defBody s_law_tree) (defScope s_law_tree) .none kV_law_tree dc_law_tree pm_law_tree an_law_tree cd_law_tree ct_law_tree), sl_law_tree⟩)
    (c_law_tree : PySem.W.codeIn K cd_law_tree "_law_tree" = true)
    (k_law_tree : PySem.W.keepIn K (.ref f_law_tree) = true)
    (n_law_word : PySem.W.nsIn K mainGlobals "_law_word" = some (some (.ref f_law_word)))
    (l_law_word : K.lookup f_law_word = some ⟨oc_law_word, od_law_word, .func (PySem.W.fnOf "_law_word" "_law_word" (defArgs s_law_word) (defBody s_law_word) (defScope s_law_word) .none kV_law_word dc_law_word pm_law_word an_law_word cd_law_word ct_law_word), sl_law_word⟩)
    (c_law_word : PySem.W.codeIn K cd_law_word "_law_word" = true)
    (k_law_word : PySem.W.keepIn K (.ref f_law_word) = true)
    (n_law_texts : PySem.W.nsIn K mainGlobals "_law_texts" = some (some (.ref f_law_texts)))
    (l_law_texts : K.lookup f_law_texts = some ⟨oc_law_texts, od_law_texts, .func (PySem.W.fnOf "_law_texts" "_law_texts" (defArgs s_law_texts) (defBody s_law_texts) (defScope s_law_texts) .none kV_law_texts dc_law_texts pm_law_texts an_law_texts cd_law_texts ct_law_texts), sl_law_texts⟩)
    (c_law_texts : PySem.W.codeIn K cd_law_texts "_law_texts" = true)
    (k_law_texts : PySem.W.keepIn K (.ref f_law_texts) = true)
    (n_law_due : PySem.W.nsIn K mainGlobals "_law_due" = some (some (.ref f_law_due)))
    (l_law_due : K.lookup f_law_due = some ⟨oc_law_due, od_law_due, .func (PySem.W.fnOf "_law_due" "_law_due" (defArgs s_law_due) (defBody s_law_due) (defScope s_law_due) .none kV_law_due dc_law_due pm_law_due an_law_due cd_law_due ct_law_due), sl_law_due⟩)
    (c_law_due : PySem.W.codeIn K cd_law_due "_law_due" = true)
    (k_law_due : PySem.W.keepIn K (.ref f_law_due) = true)
    (n_law : PySem.W.nsIn K mainGlobals "law" = some (some (.ref f_law)))
    (l_law : K.lookup f_law = some ⟨oc_law, od_law, .func (PySem.W.fnOf "law" "law" (defArgs s_law) (defBody s_law) (defScope s_law) .none kV_law dc_law pm_law an_law cd_law ct_law), sl_law⟩)
    (c_law : PySem.W.codeIn K cd_law "law" = true)
    (k_law : PySem.W.keepIn K (.ref f_law) = true)
    (v_e_NoTree : ExcC K a_NoTree)
    (v_e_NoTexts : ExcC K a_NoTexts)
    (v_e_NoRoom : ExcC K a_NoRoom) :
    LamX.LawAtS l w K CX0 65 63 "script" mg fa h := by
  have e2 : f_law = fa := (Value.ref.inj (Option.some.inj (hfa.symm.trans (PySem.W.mg_of X G n_law)))).symm
  subst e2
  letI : Tbs := ⟨[]⟩
  let T : Txt K mg :=
    { b_ValueError := PySem.W.mg_none_of X G z_ValueError
      b_bool := PySem.W.mg_none_of X G z_bool
      b_enumerate := PySem.W.mg_none_of X G z_enumerate
      b_int := PySem.W.mg_none_of X G z_int
      b_isinstance := PySem.W.mg_none_of X G z_isinstance
      b_len := PySem.W.mg_none_of X G z_len
      b_list := PySem.W.mg_none_of X G z_list
      b_max := PySem.W.mg_none_of X G z_max
      b_min := PySem.W.mg_none_of X G z_min
      b_range := PySem.W.mg_none_of X G z_range
      b_sorted := PySem.W.mg_none_of X G z_sorted
      b_str := PySem.W.mg_none_of X G z_str
      b_sum := PySem.W.mg_none_of X G z_sum
      b_tuple := PySem.W.mg_none_of X G z_tuple
      b_zip := PySem.W.mg_none_of X G z_zip
      t_MOST_SIGNS := t_MOST_SIGNS
      c_MOST_SIGNS := PySem.W.mg_of X G c_MOST_SIGNS
      t_SIGNS := t_SIGNS
      c_SIGNS := PySem.W.mg_of X G c_SIGNS
      t_MOST_BOXES := t_MOST_BOXES
      c_MOST_BOXES := PySem.W.mg_of X G c_MOST_BOXES
      t_MOST_WORDS := t_MOST_WORDS
      c_MOST_WORDS := PySem.W.mg_of X G c_MOST_WORDS
      t_MOST_WIDE := t_MOST_WIDE
      c_MOST_WIDE := PySem.W.mg_of X G c_MOST_WIDE
      a_PartError := a_PartError
      PartError := ⟨PySem.W.mg_of X G n_PartError, x_PartError, k_PartError, s_PartError, y_PartError⟩
      a_NoTree := a_NoTree
      NoTree := ⟨PySem.W.mg_of X G n_NoTree, x_NoTree, k_NoTree, s_NoTree, y_NoTree⟩
      a_NoTexts := a_NoTexts
      NoTexts := ⟨PySem.W.mg_of X G n_NoTexts, x_NoTexts, k_NoTexts, s_NoTexts, y_NoTexts⟩
      a_NoRoom := a_NoRoom
      NoRoom := ⟨PySem.W.mg_of X G n_NoRoom, x_NoRoom, k_NoRoom, s_NoRoom, y_NoRoom⟩
      f_is_word := f_is_word
      fd_is_word := _
      d_is_word := ⟨fun_mk (st := s_is_word) l_is_word c_is_word k_is_word, PySem.W.mg_of X G n_is_word, (fun_mk (st := s_is_word) l_is_word c_is_word k_is_word).binds (ps := ["thing"]) fun _ _ _ _ _ _ us hl => match us, hl with | [_], _ => rfl⟩
      f_need_words := f_need_words
      fd_need_words := _
      d_need_words := ⟨fun_mk (st := s_need_words) l_need_words c_need_words k_need_words, PySem.W.mg_of X G n_need_words, (fun_mk (st := s_need_words) l_need_words c_need_words k_need_words).binds (ps := ["things"]) fun _ _ _ _ _ _ us hl => match us, hl with | [_], _ => rfl⟩
      f_put_word := f_put_word
      fd_put_word := _
      d_put_word := ⟨fun_mk (st := s_put_word) l_put_word c_put_word k_put_word, PySem.W.mg_of X G n_put_word, (fun_mk (st := s_put_word) l_put_word c_put_word k_put_word).binds (ps := ["found", "word", "wide"]) fun _ _ _ _ _ _ us hl => match us, hl with | [_, _, _], _ => rfl⟩
      f_lines := f_lines
      fd_lines := _
      d_lines := ⟨fun_mk (st := s_lines) l_lines c_lines k_lines, PySem.W.mg_of X G n_lines, (fun_mk (st := s_lines) l_lines c_lines k_lines).binds (ps := ["words", "wide"]) fun _ _ _ _ _ _ us hl => match us, hl with | [_, _], _ => rfl⟩
      f_taken := f_taken
      fd_taken := _
      d_taken := ⟨fun_mk (st := s_taken) l_taken c_taken k_taken, PySem.W.mg_of X G n_taken, (fun_mk (st := s_taken) l_taken c_taken k_taken).binds (ps := ["sizes", "wide"]) fun _ _ _ _ _ _ us hl => match us, hl with | [_, _], _ => rfl⟩
      f_next_stair := f_next_stair
      fd_next_stair := _
      d_next_stair := ⟨fun_mk (st := s_next_stair) l_next_stair c_next_stair k_next_stair, PySem.W.mg_of X G n_next_stair, (fun_mk (st := s_next_stair) l_next_stair c_next_stair k_next_stair).binds (ps := ["sizes", "wide", "many", "whole"]) fun _ _ _ _ _ _ us hl => match us, hl with | [_, _, _, _], _ => rfl⟩
      f_text_stairs := f_text_stairs
      fd_text_stairs := _
      d_text_stairs := ⟨fun_mk (st := s_text_stairs) l_text_stairs c_text_stairs k_text_stairs, PySem.W.mg_of X G n_text_stairs, (fun_mk (st := s_text_stairs) l_text_stairs c_text_stairs k_text_stairs).binds (ps := ["words"]) fun _ _ _ _ _ _ us hl => match us, hl with | [_], _ => rfl⟩
      f_is_whole := f_is_whole
      fd_is_whole := _
      d_is_whole := ⟨fun_mk (st := s_is_whole) l_is_whole c_is_whole k_is_whole, PySem.W.mg_of X G n_is_whole, (fun_mk (st := s_is_whole) l_is_whole c_is_whole k_is_whole).binds (ps := ["thing"]) fun _ _ _ _ _ _ us hl => match us, hl with | [_], _ => rfl⟩
      f_is_tree := f_is_tree
      fd_is_tree := _
      d_is_tree := ⟨fun_mk (st := s_is_tree) l_is_tree c_is_tree k_is_tree, PySem.W.mg_of X G n_is_tree, (fun_mk (st := s_is_tree) l_is_tree c_is_tree k_is_tree).binds (ps := ["thing"]) fun _ _ _ _ _ _ us hl => match us, hl with | [_], _ => rfl⟩
      f_need_tree := f_need_tree
      fd_need_tree := _
      d_need_tree := ⟨fun_mk (st := s_need_tree) l_need_tree c_need_tree k_need_tree, PySem.W.mg_of X G n_need_tree, (fun_mk (st := s_need_tree) l_need_tree c_need_tree k_need_tree).binds (ps := ["thing"]) fun _ _ _ _ _ _ us hl => match us, hl with | [_], _ => rfl⟩
      f_count_boxes := f_count_boxes
      fd_count_boxes := _
      d_count_boxes := ⟨fun_mk (st := s_count_boxes) l_count_boxes c_count_boxes k_count_boxes, PySem.W.mg_of X G n_count_boxes, (fun_mk (st := s_count_boxes) l_count_boxes c_count_boxes k_count_boxes).binds (ps := ["tree"]) fun _ _ _ _ _ _ us hl => match us, hl with | [_], _ => rfl⟩
      f_boxes_of := f_boxes_of
      fd_boxes_of := _
      d_boxes_of := ⟨fun_mk (st := s_boxes_of) l_boxes_of c_boxes_of k_boxes_of, PySem.W.mg_of X G n_boxes_of, (fun_mk (st := s_boxes_of) l_boxes_of c_boxes_of k_boxes_of).binds (ps := ["tree"]) fun _ _ _ _ _ _ us hl => match us, hl with | [_], _ => rfl⟩
      f_joined := f_joined
      fd_joined := _
      d_joined := ⟨fun_mk (st := s_joined) l_joined c_joined k_joined, PySem.W.mg_of X G n_joined, (fun_mk (st := s_joined) l_joined c_joined k_joined).binds (ps := ["parts", "near", "far"]) fun _ _ _ _ _ _ us hl => match us, hl with | [_, _, _], _ => rfl⟩
      f_stairs_by := f_stairs_by
      fd_stairs_by := _
      d_stairs_by := ⟨fun_mk (st := s_stairs_by) l_stairs_by c_stairs_by k_stairs_by, PySem.W.mg_of X G n_stairs_by, (fun_mk (st := s_stairs_by) l_stairs_by c_stairs_by k_stairs_by).binds (ps := ["kind", "parts"]) fun _ _ _ _ _ _ us hl => match us, hl with | [_, _], _ => rfl⟩
      f_measured := f_measured
      fd_measured := _
      d_measured := ⟨fun_mk (st := s_measured) l_measured c_measured k_measured, PySem.W.mg_of X G n_measured, (fun_mk (st := s_measured) l_measured c_measured k_measured).binds (ps := ["tree", "texts"]) fun _ _ _ _ _ _ us hl => match us, hl with | [_, _], _ => rfl⟩
      f_need_measured := f_need_measured
      fd_need_measured := _
      d_need_measured := ⟨fun_mk (st := s_need_measured) l_need_measured c_need_measured k_need_measured, PySem.W.mg_of X G n_need_measured, (fun_mk (st := s_need_measured) l_need_measured c_need_measured k_need_measured).binds (ps := ["tree", "texts"]) fun _ _ _ _ _ _ us hl => match us, hl with | [_, _], _ => rfl⟩
      f_tree_stairs := f_tree_stairs
      fd_tree_stairs := _
      d_tree_stairs := ⟨fun_mk (st := s_tree_stairs) l_tree_stairs c_tree_stairs k_tree_stairs, PySem.W.mg_of X G n_tree_stairs, (fun_mk (st := s_tree_stairs) l_tree_stairs c_tree_stairs k_tree_stairs).binds (ps := ["tree", "texts"]) fun _ _ _ _ _ _ us hl => match us, hl with | [_, _], _ => rfl⟩
      f_high_for := f_high_for
      fd_high_for := _
      d_high_for := ⟨fun_mk (st := s_high_for) l_high_for c_high_for k_high_for, PySem.W.mg_of X G n_high_for, (fun_mk (st := s_high_for) l_high_for c_high_for k_high_for).binds (ps := ["stairs", "wide"]) fun _ _ _ _ _ _ us hl => match us, hl with | [_, _], _ => rfl⟩
      f_wide_for := f_wide_for
      fd_wide_for := _
      d_wide_for := ⟨fun_mk (st := s_wide_for) l_wide_for c_wide_for k_wide_for, PySem.W.mg_of X G n_wide_for, (fun_mk (st := s_wide_for) l_wide_for c_wide_for k_wide_for).binds (ps := ["stairs", "high"]) fun _ _ _ _ _ _ us hl => match us, hl with | [_, _], _ => rfl⟩
      f_least_high := f_least_high
      fd_least_high := _
      d_least_high := ⟨fun_mk (st := s_least_high) l_least_high c_least_high k_least_high, PySem.W.mg_of X G n_least_high, (fun_mk (st := s_least_high) l_least_high c_least_high k_least_high).binds (ps := ["tree", "texts", "wide"]) fun _ _ _ _ _ _ us hl => match us, hl with | [_, _, _], _ => rfl⟩
      f_least_wide := f_least_wide
      fd_least_wide := _
      d_least_wide := ⟨fun_mk (st := s_least_wide) l_least_wide c_least_wide k_least_wide, PySem.W.mg_of X G n_least_wide, (fun_mk (st := s_least_wide) l_least_wide c_least_wide k_least_wide).binds (ps := ["tree", "texts", "high"]) fun _ _ _ _ _ _ us hl => match us, hl with | [_, _, _], _ => rfl⟩
      f_laid_beside := f_laid_beside
      fd_laid_beside := _
      d_laid_beside := ⟨fun_mk (st := s_laid_beside) l_laid_beside c_laid_beside k_laid_beside, PySem.W.mg_of X G n_laid_beside, (fun_mk (st := s_laid_beside) l_laid_beside c_laid_beside k_laid_beside).binds (ps := ["parts", "piece"]) fun _ _ _ _ _ _ us hl => match us, hl with | [_, _], _ => rfl⟩
      f_laid_beneath := f_laid_beneath
      fd_laid_beneath := _
      d_laid_beneath := ⟨fun_mk (st := s_laid_beneath) l_laid_beneath c_laid_beneath k_laid_beneath, PySem.W.mg_of X G n_laid_beneath, (fun_mk (st := s_laid_beneath) l_laid_beneath c_laid_beneath k_laid_beneath).binds (ps := ["parts", "piece"]) fun _ _ _ _ _ _ us hl => match us, hl with | [_, _], _ => rfl⟩
      f_setting := f_setting
      fd_setting := _
      d_setting := ⟨fun_mk (st := s_setting) l_setting c_setting k_setting, PySem.W.mg_of X G n_setting, (fun_mk (st := s_setting) l_setting c_setting k_setting).binds (ps := ["tree", "texts", "wide", "high"]) fun _ _ _ _ _ _ us hl => match us, hl with | [_, _, _, _], _ => rfl⟩
      f_printed := f_printed
      fd_printed := _
      d_printed := ⟨fun_mk (st := s_printed) l_printed c_printed k_printed, PySem.W.mg_of X G n_printed, (fun_mk (st := s_printed) l_printed c_printed k_printed).binds (ps := ["tree", "texts", "wide"]) fun _ _ _ _ _ _ us hl => match us, hl with | [_, _, _], _ => rfl⟩
      f_law_stir := f_law_stir
      fd_law_stir := _
      d_law_stir := ⟨fun_mk (st := s_law_stir) l_law_stir c_law_stir k_law_stir, PySem.W.mg_of X G n_law_stir, (fun_mk (st := s_law_stir) l_law_stir c_law_stir k_law_stir).binds (ps := ["cell", "k"]) fun _ _ _ _ _ _ us hl => match us, hl with | [_, _], _ => rfl⟩
      f_law_cell := f_law_cell
      fd_law_cell := _
      d_law_cell := ⟨fun_mk (st := s_law_cell) l_law_cell c_law_cell k_law_cell, PySem.W.mg_of X G n_law_cell, (fun_mk (st := s_law_cell) l_law_cell c_law_cell k_law_cell).binds (ps := ["script", "k"]) fun _ _ _ _ _ _ us hl => match us, hl with | [_, _], _ => rfl⟩
      f_law_lack := f_law_lack
      fd_law_lack := _
      d_law_lack := ⟨fun_mk (st := s_law_lack) l_law_lack c_law_lack k_law_lack, PySem.W.mg_of X G n_law_lack, (fun_mk (st := s_law_lack) l_law_lack c_law_lack k_law_lack).binds (ps := ["pile"]) fun _ _ _ _ _ _ us hl => match us, hl with | [_], _ => rfl⟩
      f_law_shape := f_law_shape
      fd_law_shape := _
      d_law_shape := ⟨fun_mk (st := s_law_shape) l_law_shape c_law_shape k_law_shape, PySem.W.mg_of X G n_law_shape, (fun_mk (st := s_law_shape) l_law_shape c_law_shape k_law_shape).binds (ps := ["cells", "kind", "most"]) fun _ _ _ _ _ _ us hl => match us, hl with | [_, _, _], _ => rfl⟩
      f_law_count := f_law_count
      fd_law_count := _
      d_law_count := ⟨fun_mk (st := s_law_count) l_law_count c_law_count k_law_count, PySem.W.mg_of X G n_law_count, (fun_mk (st := s_law_count) l_law_count c_law_count k_law_count).binds (ps := ["shape"]) fun _ _ _ _ _ _ us hl => match us, hl with | [_], _ => rfl⟩
      f_law_numbered := f_law_numbered
      fd_law_numbered := _
      d_law_numbered := ⟨fun_mk (st := s_law_numbered) l_law_numbered c_law_numbered k_law_numbered, PySem.W.mg_of X G n_law_numbered, (fun_mk (st := s_law_numbered) l_law_numbered c_law_numbered k_law_numbered).binds (ps := ["shape", "left"]) fun _ _ _ _ _ _ us hl => match us, hl with | [_, _], _ => rfl⟩
      f_law_tree := f_law_tree
      fd_law_tree := _
      d_law_tree := ⟨fun_mk (st := s_law_tree) l_law_tree c_law_tree k_law_tree, PySem.W.mg_of X G n_law_tree, (fun_mk (st := s_law_tree) l_law_tree c_law_tree k_law_tree).binds (ps := ["script", "first", "most"]) fun _ _ _ _ _ _ us hl => match us, hl with | [_, _, _], _ => rfl⟩
      f_law_word := f_law_word
      fd_law_word := _
      d_law_word := ⟨fun_mk (st := s_law_word) l_law_word c_law_word k_law_word, PySem.W.mg_of X G n_law_word, (fun_mk (st := s_law_word) l_law_word c_law_word k_law_word).binds (ps := ["cell"]) fun _ _ _ _ _ _ us hl => match us, hl with | [_], _ => rfl⟩
      f_law_texts := f_law_texts
      fd_law_texts := _
      d_law_texts := ⟨fun_mk (st := s_law_texts) l_law_texts c_law_texts k_law_texts, PySem.W.mg_of X G n_law_texts, (fun_mk (st := s_law_texts) l_law_texts c_law_texts k_law_texts).binds (ps := ["script", "many"]) fun _ _ _ _ _ _ us hl => match us, hl with | [_, _], _ => rfl⟩
      f_law_due := f_law_due
      fd_law_due := _
      d_law_due := ⟨fun_mk (st := s_law_due) l_law_due c_law_due k_law_due, PySem.W.mg_of X G n_law_due, (fun_mk (st := s_law_due) l_law_due c_law_due k_law_due).binds (ps := ["boxes", "texts", "wide", "high"]) fun _ _ _ _ _ _ us hl => match us, hl with | [_, _, _, _], _ => rfl⟩
      f_law := f_law
      fd_law := _
      d_law := ⟨fun_mk (st := s_law) l_law c_law k_law, PySem.W.mg_of X G n_law, (fun_mk (st := s_law) l_law c_law k_law).binds (ps := ["script"]) fun _ _ _ _ _ _ us hl => match us, hl with | [_], _ => rfl⟩
      e_NoTree := v_e_NoTree
      e_NoTexts := v_e_NoTexts
      e_NoRoom := v_e_NoRoom }
  refine ⟨T.fd_law, [], SpG K none G_law, fun p hp => absurd hp List.not_mem_nil, fun p hp => absurd hp List.not_mem_nil, fun p hp => absurd hp List.not_mem_nil, fun s v => .of_eq rfl, fun H a ns hl hbits hP hS => law_sp (fun p hp => ?_) hS hl, fun base _ _ hb => ?_⟩
  · exact absurd hp List.not_mem_nil
  · exact ok_law T
end SV
open PySem PySem.W PyProof.Rows
set_option pp.maxSteps 300
set_option maxHeartbeats 0 in
theorem PySem.Challenge.cw_pagepart_k66_printed_holds : PySem.Challenge.rw_pagepart_k66_printed.Holds := by
  w_on; o_law; k_head; (case hw => w_witness2)
  k_fill
  refine LamX.walk_ofTs (l := PySem.Challenge.rw_pagepart_k66_printed) (n := 63) (k := 65) (x := "script") (CX := fun _ => L2.CX0) rfl (by decide) rfl ⟨rfl, by decide, by decide⟩ (fun w h Y => PySem.W.kIn_of Y) ?F (fun _ _ _ _ _ h => h)
  case F =>
    intro w mg fa h Y KX G hmg
    refine' SV.all_mk KX G hmg ?z_ValueError ?z_bool ?z_enumerate ?z_int ?z_isinstance ?z_len ?z_list ?z_max ?z_min ?z_range ?z_sorted ?z_str ?z_sum ?z_tuple ?z_zip ?c_MOST_SIGNS ?c_SIGNS ?c_MOST_BOXES ?c_MOST_WORDS ?c_MOST_WIDE ?n_PartError ?x_PartError ?k_PartError ?s_PartError ?y_PartError ?n_NoTree ?x_NoTree ?k_NoTree ?s_NoTree ?y_NoTree ?n_NoTexts ?x_NoTexts ?k_NoTexts ?s_NoTexts ?y_NoTexts ?n_NoRoom ?x_NoRoom ?k_NoRoom ?s_NoRoom ?y_NoRoom ?n_is_word ?l_is_word ?c_is_word ?k_is_word ?n_need_words ?l_need_words ?c_need_words ?k_need_words ?n_put_word ?l_put_word ?c_put_word ?k_put_word ?n_lines ?l_lines ?c_lines ?k_lines ?n_taken ?l_taken ?c_taken ?k_taken ?n_next_stair ?l_next_stair ?c_next_stair ?k_next_stair ?n_text_stairs ?l_text_stairs ?c_text_stairs ?k_text_stairs ?n_is_whole ?l_is_whole ?c_is_whole ?k_is_whole ?n_is_tree ?l_is_tree ?c_is_tree ?k_is_tree ?n_need_tree ?l_need_tree ?c_need_tree ?k_need_tree ?n_count_boxes ?l_count_boxes ?c_count_boxes ?k_count_boxes ?n_boxes_of ?l_boxes_of ?c_boxes_of ?k_boxes_of ?n_joined ?l_joined ?c_joined ?k_joined ?n_stairs_by ?l_stairs_by ?c_stairs_by ?k_stairs_by ?n_measured ?l_measured ?c_measured ?k_measured ?n_need_measured ?l_need_measured ?c_need_measured ?k_need_measured ?n_tree_stairs ?l_tree_stairs ?c_tree_stairs ?k_tree_stairs ?n_high_for ?l_high_for ?c_high_for ?k_high_for ?n_wide_for ?l_wide_for ?c_wide_for ?k_wide_for ?n_least_high ?l_least_high ?c_least_high ?k_least_high ?n_least_wide ?l_least_wide ?c_least_wide ?k_least_wide ?n_laid_beside ?l_laid_beside ?c_laid_beside ?k_laid_beside ?n_laid_beneath ?l_laid_beneath ?c_laid_beneath ?k_laid_beneath ?n_setting ?l_setting ?c_setting ?k_setting ?n_printed ?l_printed ?c_printed ?k_printed ?n_law_stir ?l_law_stir ?c_law_stir ?k_law_stir ?n_law_cell ?l_law_cell ?c_law_cell ?k_law_cell ?n_law_lack ?l_law_lack ?c_law_lack ?k_law_lack ?n_law_shape ?l_law_shape ?c_law_shape ?k_law_shape ?n_law_count ?l_law_count ?c_law_count ?k_law_count ?n_law_numbered ?l_law_numbered ?c_law_numbered ?k_law_numbered ?n_law_tree ?l_law_tree ?c_law_tree ?k_law_tree ?n_law_word ?l_law_word ?c_law_word ?k_law_word ?n_law_texts ?l_law_texts ?c_law_texts ?k_law_texts ?n_law_due ?l_law_due ?c_law_due ?k_law_due ?n_law ?l_law ?c_law ?k_law ?v_e_NoTree ?v_e_NoTexts ?v_e_NoRoom
    (case z_ValueError => k_is); (case z_bool => k_is); (case z_enumerate => k_is); (case z_int => k_is); (case z_isinstance => k_is); (case z_len => k_is); (case z_list => k_is); (case z_max => k_is); (case z_min => k_is); (case z_range => k_is); (case z_sorted => k_is); (case z_str => k_is); (case z_sum => k_is); (case z_tuple => k_is); (case z_zip => k_is); (case c_MOST_SIGNS => k_is); (case c_SIGNS => k_is); (case c_MOST_BOXES => k_is); (case c_MOST_WORDS => k_is); (case c_MOST_WIDE => k_is); (case n_PartError => k_is); (case x_PartError => k_exc); (case k_PartError => k_is); (case s_PartError => k_is); (case y_PartError => k_is); (case n_NoTree => k_is); (case x_NoTree => k_exc); (case k_NoTree => k_is); (case s_NoTree => k_is); (case y_NoTree => k_is); (case n_NoTexts => k_is); (case x_NoTexts => k_exc); (case k_NoTexts => k_is); (case s_NoTexts => k_is); (case y_NoTexts => k_is); (case n_NoRoom => k_is); (case x_NoRoom => k_exc); (case k_NoRoom => k_is); (case s_NoRoom => k_is); (case y_NoRoom => k_is); (case n_is_word => k_is); (case l_is_word => k_is); (case c_is_word => k_is); (case k_is_word => k_is); (case n_need_words => k_is); (case l_need_words => k_is); (case c_need_words => k_is); (case k_need_words => k_is); (case n_put_word => k_is); (case l_put_word => k_is); (case c_put_word => k_is); (case k_put_word => k_is); (case n_lines => k_is); (case l_lines => k_is); (case c_lines => k_is); (case k_lines => k_is); (case n_taken => k_is); (case l_taken => k_is); (case c_taken => k_is); (case k_taken => k_is); (case n_next_stair => k_is); (case l_next_stair => k_is); (case c_next_stair => k_is); (case k_next_stair => k_is); (case n_text_stairs => k_is); (case l_text_stairs => k_is); (case c_text_stairs => k_is); (case k_text_stairs => k_is); (case n_is_whole => k_is); (case l_is_whole => k_is); (case c_is_whole => k_is); (case k_is_whole => k_is); (case n_is_tree => k_is); (case l_is_tree => k_is); (case c_is_tree => k_is); (case k_is_tree => k_is); (case n_need_tree => k_is); (case l_need_tree => k_is); (case c_need_tree => k_is); (case k_need_tree => k_is); (case n_count_boxes => k_is); (case l_count_boxes => k_is); (case c_count_boxes => k_is); (case k_count_boxes => k_is); (case n_boxes_of => k_is); (case l_boxes_of => k_is); (case c_boxes_of => k_is); (case k_boxes_of => k_is); (case n_joined => k_is); (case l_joined => k_is); (case c_joined => k_is); (case k_joined => k_is); (case n_stairs_by => k_is); (case l_stairs_by => k_is); (case c_stairs_by => k_is); (case k_stairs_by => k_is); (case n_measured => k_is); (case l_measured => k_is); (case c_measured => k_is); (case k_measured => k_is); (case n_need_measured => k_is); (case l_need_measured => k_is); (case c_need_measured => k_is); (case k_need_measured => k_is); (case n_tree_stairs => k_is); (case l_tree_stairs => k_is); (case c_tree_stairs => k_is); (case k_tree_stairs => k_is); (case n_high_for => k_is); (case l_high_for => k_is); (case c_high_for => k_is); (case k_high_for => k_is); (case n_wide_for => k_is); (case l_wide_for => k_is); (case c_wide_for => k_is); (case k_wide_for => k_is); (case n_least_high => k_is); (case l_least_high => k_is); (case c_least_high => k_is); (case k_least_high => k_is); (case n_least_wide => k_is); (case l_least_wide => k_is); (case c_least_wide => k_is); (case k_least_wide => k_is); (case n_laid_beside => k_is); (case l_laid_beside => k_is); (case c_laid_beside => k_is); (case k_laid_beside => k_is); (case n_laid_beneath => k_is); (case l_laid_beneath => k_is); (case c_laid_beneath => k_is); (case k_laid_beneath => k_is); (case n_setting => k_is); (case l_setting => k_is); (case c_setting => k_is); (case k_setting => k_is); (case n_printed => k_is); (case l_printed => k_is); (case c_printed => k_is); (case k_printed => k_is); (case n_law_stir => k_is); (case l_law_stir => k_is); (case c_law_stir => k_is); (case k_law_stir => k_is); (case n_law_cell => k_is); (case l_law_cell => k_is); (case c_law_cell => k_is); (case k_law_cell => k_is); (case n_law_lack => k_is); (case l_law_lack => k_is); (case c_law_lack => k_is); (case k_law_lack => k_is); (case n_law_shape => k_is); (case l_law_shape => k_is); (case c_law_shape => k_is); (case k_law_shape => k_is); (case n_law_count => k_is); (case l_law_count => k_is); (case c_law_count => k_is); (case k_law_count => k_is); (case n_law_numbered => k_is); (case l_law_numbered => k_is); (case c_law_numbered => k_is); (case k_law_numbered => k_is); (case n_law_tree => k_is); (case l_law_tree => k_is); (case c_law_tree => k_is); (case k_law_tree => k_is); (case n_law_word => k_is); (case l_law_word => k_is); (case c_law_word => k_is); (case k_law_word => k_is); (case n_law_texts => k_is); (case l_law_texts => k_is); (case c_law_texts => k_is); (case k_law_texts => k_is); (case n_law_due => k_is); (case l_law_due => k_is); (case c_law_due => k_is); (case k_law_due => k_is); (case n_law => k_is); (case l_law => k_is); (case c_law => k_is); (case k_law => k_is); (case v_e_NoTree => exact ⟨by k_is, by k_is, by k_is, by k_is, by k_is, by k_is, by k_is, by k_is⟩); (case v_e_NoTexts => exact ⟨by k_is, by k_is, by k_is, by k_is, by k_is, by k_is, by k_is, by k_is⟩); (case v_e_NoRoom => exact ⟨by k_is, by k_is, by k_is, by k_is, by k_is, by k_is, by k_is, by k_is⟩)
