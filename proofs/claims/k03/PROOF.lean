import PyProof.Rows.All
import Wide.All
import OpenK.AllK
import Wide.FinOn
import HandS.ForMost
import HandS.Wide
import HandS.TupAny
import HandS.TupMul
import HandS.Star
import HandS.Style
import HandS.IsInst
import HandS.Gcd
import HandS.Zip
import KE.DataMinMax
import KE.GoesMore
import HandS.Iter
import HandS.Ends
import HandS.Defaults
import HandS.Head0
import HandS.Head1
import HandS.Head2
import HandS.HeadEnd
import HandS.HeadHook1
import HandS.HeadHook2
import PyProof.Rows.ReprOcc
import HandS.Head3
import PySem.Challenge.RW_trialground_k03_whole_yields_answers_plo
set_option Elab.async false
set_option linter.all false
set_option maxRecDepth 100000
set_option maxHeartbeats 4000000
/-! Eng1: plain data (trees) beside the layer's heap: what a value stands for, owned lists, frames. -/
namespace Eng
open PySem PySem.Spec PyProof.Rows L2

abbrev D := PyData
abbrev Sl := List (Option V)

inductive Val where
  | d (t : D)
  | own (xs : List D)

def Val.dat : Val → D
  | .d t => t
  | .own xs => .list xs

/-- a list of exactly a list's own form: tracked, known, or one of the module's -/
def LR (K : PySem.W.Frag) (F : Hp) (a : Addr) (xs : List V) : Prop :=
  Rd F a (.lst xs) ∨ ∃ (its : List Value) (n : Nat), K.lookup a = some { cls := .type "list", data := .seq its.toArray n } ∧ its.length ≤ sizeLine ∧ Vals xs its
theorem LR.sq {K : PySem.W.Frag} {F : Hp} {a : Addr} {xs : List V} (h : LR K F a xs) : SqL K F a xs := by
  rcases h with h | ⟨its, n, h, z, r⟩
  · exact .inl h
  · exact .inr ⟨_, its.toArray, n, h, rfl, rfl, rfl, by simpa using z, by simpa using r⟩
theorem LR.mono {K : PySem.W.Frag} {F F' : Hp} (h : Same F F') {a : Addr} {xs : List V} (q : LR K F a xs) : LR K F' a xs := by
  rcases q with (q | ⟨o, q⟩) | q
  · exact .inl (.inl (h _ _ q))
  · exact .inl (.inr ⟨o, h _ _ q⟩)
  · exact .inr q
theorem LR.obj {X : Cx} {pins : List (Addr × Obj)} {σ : Sl} {H : Hp} {s : Shared} {a : Addr} {xs : List V} (I : Inv X pins σ H s) (q : LR X.K H a xs) :
    ∃ (its : List Value) (n : Nat), Vals xs its ∧ s.heap.get? a = some { cls := .type "list", data := .seq its.toArray n } ∧ xs.length ≤ sizeLine := by
  rcases q with q | ⟨its, n, h, z, r⟩
  · obtain ⟨z, its, n, r, e⟩ := q.ok I.hok
    exact ⟨its, n, r, e, z⟩
  · exact ⟨its, n, r, I.kIn a _ h, by rw [r.length]; exact z⟩
mutual
inductive At (K : PySem.W.Frag) (F : Hp) : V → D → Prop
  | non : At K F .non .none
  | bl (b : Bool) : At K F (.bl b) (.bool b)
  | int (i : Int) : At K F (.int i) (.int i)
  | str (x : Str) : At K F (.str x) (.str x)
  | lst {a : Addr} {xs : List V} {ds : List D} : LR K F a xs → AtAll K F xs ds → At K F (.ref a) (.list ds)
  | tup {a : Addr} {xs : List V} {ds : List D} : SqT K F a xs → AtAll K F xs ds → At K F (.ref a) (.tuple ds)
  | dic {a : Addr} : F a = some (.dK []) → At K F (.ref a) (.dict [])
inductive AtAll (K : PySem.W.Frag) (F : Hp) : List V → List D → Prop
  | nil : AtAll K F [] []
  | cons {v : V} {vs : List V} {t : D} {ts : List D} : At K F v t → AtAll K F vs ts → AtAll K F (v :: vs) (t :: ts)
end

theorem sqL_mono {K : PySem.W.Frag} {F F' : Hp} (h : Same F F') {a : Addr} {xs : List V} (q : SqL K F a xs) : SqL K F' a xs := h.seq q
theorem sqT_mono {K : PySem.W.Frag} {F F' : Hp} (h : Same F F') {a : Addr} {xs : List V} (q : SqT K F a xs) : SqT K F' a xs := by
  rcases q with (q | ⟨o, q⟩) | q
  · exact .inl (.inl (h _ _ q))
  · exact .inl (.inr ⟨o, h _ _ q⟩)
  · exact .inr q
mutual
theorem At.mono {K : PySem.W.Frag} {F F' : Hp} (h : Same F F') : ∀ {v : V} {t : D}, At K F v t → At K F' v t
  | _, _, .non => .non
  | _, _, .bl b => .bl b
  | _, _, .int i => .int i
  | _, _, .str x => .str x
  | _, _, .lst q r => .lst (q.mono h) (AtAll.mono h r)
  | _, _, .tup q r => .tup (sqT_mono h q) (AtAll.mono h r)
  | _, _, .dic q => .dic (h _ _ q)
theorem AtAll.mono {K : PySem.W.Frag} {F F' : Hp} (h : Same F F') : ∀ {vs : List V} {ts : List D}, AtAll K F vs ts → AtAll K F' vs ts
  | _, _, .nil => .nil
  | _, _, .cons q r => .cons (At.mono h q) (AtAll.mono h r)
end
section
variable {K : PySem.W.Frag} {F : Hp}
theorem AtAll.length : ∀ {vs : List V} {ts : List D}, AtAll K F vs ts → vs.length = ts.length
  | _, _, .nil => rfl
  | _, _, .cons _ r => by simp [AtAll.length r]
theorem AtAll.append : ∀ {vs : List V} {ts : List D} {ws : List V} {us : List D}, AtAll K F vs ts → AtAll K F ws us → AtAll K F (vs ++ ws) (ts ++ us)
  | _, _, _, _, .nil, s => s
  | _, _, _, _, .cons q r, s => .cons q (AtAll.append r s)
theorem AtAll.take : ∀ {vs : List V} {ts : List D} (n : Nat), AtAll K F vs ts → AtAll K F (vs.take n) (ts.take n)
  | _, _, 0, _ => .nil
  | _, _, _ + 1, .nil => .nil
  | _, _, n + 1, .cons q r => .cons q (AtAll.take n r)
theorem AtAll.drop : ∀ {vs : List V} {ts : List D} (n : Nat), AtAll K F vs ts → AtAll K F (vs.drop n) (ts.drop n)
  | _, _, 0, r => r
  | _, _, _ + 1, .nil => .nil
  | _, _, n + 1, .cons _ r => AtAll.drop n r
theorem AtAll.set {v : V} {t : D} (q : At K F v t) : ∀ {vs : List V} {ts : List D} (n : Nat), AtAll K F vs ts → AtAll K F (vs.set n v) (ts.set n t)
  | _, _, _, .nil => .nil
  | _, _, 0, .cons _ r => .cons q r
  | _, _, n + 1, .cons p r => .cons p (AtAll.set q n r)
theorem AtAll.get : ∀ {vs : List V} {ts : List D} {i : Nat} {t : D}, AtAll K F vs ts → ts[i]? = some t → ∃ v, vs[i]? = some v ∧ At K F v t
  | _, _, _, _, .nil, e => by simp at e
  | _, _, 0, _, .cons q _, e => by simp at e; subst e; exact ⟨_, rfl, q⟩
  | _, _, i + 1, t, .cons _ r, e => by
    obtain ⟨u, h1, h2⟩ := AtAll.get (i := i) (t := t) r (by simpa using e)
    exact ⟨u, by simpa using h1, h2⟩
theorem AtAll.getV : ∀ {vs : List V} {ts : List D} {i : Nat} {v : V}, AtAll K F vs ts → vs[i]? = some v → ∃ t, ts[i]? = some t ∧ At K F v t
  | _, _, _, _, .nil, e => by simp at e
  | _, _, 0, _, .cons q _, e => by simp at e; subst e; exact ⟨_, rfl, q⟩
  | _, _, i + 1, t, .cons _ r, e => by
    obtain ⟨u, h1, h2⟩ := AtAll.getV (i := i) (v := t) r (by simpa using e)
    exact ⟨u, by simpa using h1, h2⟩
theorem AtAll.reverse : ∀ {vs : List V} {ts : List D}, AtAll K F vs ts → AtAll K F vs.reverse ts.reverse
  | _, _, .nil => .nil
  | _, _, .cons q r => by
    rw [List.reverse_cons, List.reverse_cons]
    exact r.reverse.append (.cons q .nil)
theorem AtAll.repl {vs : List V} {ts : List D} (h : AtAll K F vs ts) : ∀ n : Nat, AtAll K F (List.replicate n vs).flatten (List.replicate n ts).flatten
  | 0 => .nil
  | n + 1 => by
    rw [List.replicate_succ, List.replicate_succ, List.flatten_cons, List.flatten_cons]
    exact h.append (h.repl n)
theorem AtAll.ints : ∀ ns : List Int, AtAll K F (ns.map V.int) (ns.map PyData.int)
  | [] => .nil
  | n :: ns => .cons (.int n) (AtAll.ints ns)
end

/-! ### a heap without some addresses -/
def less (H : Hp) (as : List Addr) : Hp := fun a => if a ∈ as then none else H a
theorem less_some {H : Hp} {as : List Addr} {a : Addr} {o : HO} (h : less H as a = some o) : a ∉ as ∧ H a = some o := by
  unfold less at h
  split at h
  · cases h
  · exact ⟨by assumption, h⟩
theorem less_of {H : Hp} {as : List Addr} {a : Addr} {o : HO} (n : a ∉ as) (h : H a = some o) : less H as a = some o := by
  unfold less; rw [if_neg n]; exact h
theorem less_same {H H' : Hp} {as bs : List Addr} (k : ∀ a o, H a = some o → a ∉ as → H' a = some o) (n : ∀ a o, H a = some o → a ∉ as → a ∉ bs) : Same (less H as) (less H' bs) := fun a o h => by
  obtain ⟨h1, h2⟩ := less_some h
  exact less_of (n a o h2 h1) (k a o h2 h1)
theorem less_self {H : Hp} {as : List Addr} : Same (less H as) H := fun _ _ h => (less_some h).2

/-! ### pairs of what is known and what stands there -/
abbrev Pr := Val × V
def owA : Pr → Option Addr
  | (.own _, .ref a) => some a
  | _ => none
def ow (qs : List Pr) : List Addr := qs.filterMap owA
theorem ow_nil : ow [] = [] := rfl
theorem ow_app (a b : List Pr) : ow (a ++ b) = ow a ++ ow b := List.filterMap_append
theorem ow_d (t : D) (v : V) : ow [(.d t, v)] = [] := rfl
theorem ow_own (xs : List D) (a : Addr) : ow [(.own xs, .ref a)] = [a] := rfl
theorem ow_mem {qs : List Pr} {xs : List D} {a : Addr} (h : (Val.own xs, V.ref a) ∈ qs) : a ∈ ow qs := List.mem_filterMap.mpr ⟨_, h, rfl⟩

structure Fm where
  B : Hp
  hid : List Addr
inductive RV (K : PySem.W.Frag) (F H : Hp) : Pr → Prop
  | d {t : D} {v : V} : At K F v t → RV K F H (.d t, v)
  | own {xs : List D} {a : Addr} {vs : List V} : H a = some (.lst vs) → AtAll K F vs xs → RV K F H (.own xs, .ref a)
structure Good (K : PySem.W.Frag) (Φ : Fm) (H : Hp) (qs : List Pr) : Prop where
  nd : (ow qs).Nodup
  rv : ∀ q ∈ qs, RV K (less H (ow qs ++ Φ.hid)) H q
  base : ∀ a o, Φ.B a = some o → a ∉ ow qs ∧ H a = some o
  hidB : ∀ a ∈ Φ.hid, ∃ o, Φ.B a = some o

section
variable {K : PySem.W.Frag} {Φ : Fm} {H H' : Hp} {qs qs' zs : List Pr}
/-- the heap in which frozen things are read -/
abbrev fz (Φ : Fm) (H : Hp) (qs : List Pr) : Hp := less H (ow qs ++ Φ.hid)
theorem RV.mono {K : PySem.W.Frag} {F F' : Hp} (h : Same F F') {q : Pr} (r : RV K F H q) : RV K F' H q := by
  cases r with
  | d a => exact .d (a.mono h)
  | own e a => exact .own e (a.mono h)
theorem RV.ofOwn {K : PySem.W.Frag} {F : Hp} {xs : List D} {v : V} (r : RV K F H (.own xs, v)) : ∃ a vs, v = .ref a ∧ H a = some (.lst vs) ∧ AtAll K F vs xs := by
  cases r with
  | own e a => exact ⟨_, _, rfl, e, a⟩
theorem RV.ofD {K : PySem.W.Frag} {F : Hp} {t : D} {v : V} (r : RV K F H (.d t, v)) : At K F v t := by
  cases r with
  | d a => exact a
theorem Good.ow_lst (g : Good K Φ H qs) {a : Addr} (h : a ∈ ow qs) : ∃ vs, H a = some (.lst vs) := by
  obtain ⟨⟨x, v⟩, hq, e⟩ := List.mem_filterMap.mp h
  have r := g.rv _ hq
  cases x with
  | d t => simp [owA] at e
  | own xs =>
    obtain ⟨b, vs, rfl, e1, _⟩ := r.ofOwn
    simp [owA] at e
    subst e
    exact ⟨vs, e1⟩
theorem Good.hid_some (g : Good K Φ H qs) {a : Addr} (h : a ∈ Φ.hid) : ∃ o, H a = some o := by
  obtain ⟨o, e⟩ := g.hidB a h
  exact ⟨o, (g.base a o e).2⟩
theorem Good.hid_ow (g : Good K Φ H qs) {a : Addr} (h : a ∈ Φ.hid) : a ∉ ow qs := by
  obtain ⟨o, e⟩ := g.hidB a h
  exact (g.base a o e).1
theorem Good.fresh (g : Good K Φ H qs) {p : Addr} (h : H p = none) : p ∉ ow qs ++ Φ.hid := fun m => by
  rcases List.mem_append.mp m with m | m
  · obtain ⟨vs, e⟩ := g.ow_lst m
    rw [h] at e; cases e
  · obtain ⟨o, e⟩ := g.hid_some m
    rw [h] at e; cases e
theorem Good.fz_none (g : Good K Φ H qs) {p : Addr} (h : H p = none) : fz Φ H qs p = none := by
  unfold fz less; split
  · rfl
  · exact h
/-- fewer pairs, in any order -/
theorem Good.less (g : Good K Φ H qs) (p : (qs' ++ zs).Perm qs) : Good K Φ H qs' := by
  have po : (ow qs' ++ ow zs).Perm (ow qs) := by rw [← ow_app]; exact p.filterMap _
  have sub : ∀ a, a ∈ ow qs' → a ∈ ow qs := fun a h => po.mem_iff.mp (List.mem_append_left _ h)
  refine ⟨(List.nodup_append.mp (po.nodup_iff.mpr g.nd)).1, fun q hq => ?_, fun a o e => ⟨fun h => (g.base a o e).1 (sub a h), (g.base a o e).2⟩, g.hidB⟩
  refine (g.rv q (p.mem_iff.mp (List.mem_append_left _ hq))).mono (less_same (fun _ _ e _ => e) fun a o e n m => n ?_)
  rcases List.mem_append.mp m with m | m
  · exact List.mem_append_left _ (sub a m)
  · exact List.mem_append_right _ m
theorem Good.perm (g : Good K Φ H qs) (p : qs'.Perm qs) : Good K Φ H qs' := g.less (zs := []) (by rw [List.append_nil]; exact p)
theorem Good.left (g : Good K Φ H (qs ++ zs)) : Good K Φ H qs := g.less (List.Perm.refl _)
theorem Good.right (g : Good K Φ H (zs ++ qs)) : Good K Φ H qs := g.less (zs := zs) List.perm_append_comm
/-- a frozen thing more -/
theorem Good.add (g : Good K Φ H qs) {t : D} {v : V} (h : At K (fz Φ H qs) v t) : Good K Φ H (qs ++ [(.d t, v)]) := by
  have e : ow (qs ++ [(.d t, v)]) = ow qs := by rw [ow_app, ow_d, List.append_nil]
  refine ⟨by rw [e]; exact g.nd, fun q hq => ?_, fun a o h => by rw [e]; exact g.base a o h, g.hidB⟩
  rw [e]
  rcases List.mem_append.mp hq with hq | hq
  · exact g.rv q hq
  · have e2 := List.mem_singleton.mp hq
    subst e2
    exact .d h
/-- the heap grows -/
theorem Good.grow (g : Good K Φ H qs) {p : Addr} {o : HO} (h : H p = none) : Good K Φ (upd H p o) qs := by
  have ne : ∀ {a : Addr} {u : HO}, H a = some u → a ≠ p := fun e => ne_of_none e h
  refine ⟨g.nd, fun q hq => ?_, fun a u e => ⟨(g.base a u e).1, by rw [upd_ne (ne (g.base a u e).2)]; exact (g.base a u e).2⟩, g.hidB⟩
  have sm : Same (Eng.less H (ow qs ++ Φ.hid)) (Eng.less (upd H p o) (ow qs ++ Φ.hid)) := less_same (fun a u e _ => by rw [upd_ne (ne e)]; exact e) fun _ _ _ n => n
  have r := (g.rv q hq).mono sm
  cases r with
  | d a => exact .d a
  | own e a => exact .own (by rw [upd_ne (ne e)]; exact e) a
theorem fz_grow {p : Addr} {o : HO} (h : H p = none) : Same (fz Φ H qs) (fz Φ (upd H p o) qs) :=
  less_same (fun a u e _ => by rw [upd_ne (ne_of_none e h)]; exact e) fun _ _ _ n => n
theorem Good.fz_at (g : Good K Φ H qs) {p : Addr} {o : HO} (h : H p = none) : fz Φ (upd H p o) qs p = some o :=
  less_of (g.fresh h) upd_same
theorem Good.newTup (g : Good K Φ H qs) {p : Addr} {vs : List V} {ds : List D} (h : H p = none) (a : AtAll K (fz Φ H qs) vs ds) : Good K Φ (upd H p (.tup vs)) (qs ++ [(.d (.tuple ds), .ref p)]) :=
  (g.grow h).add (.tup (.inl (.inl (g.fz_at h))) (a.mono (fz_grow h)))
theorem Good.newDic (g : Good K Φ H qs) {p : Addr} (h : H p = none) : Good K Φ (upd H p (.dK [])) (qs ++ [(.d (.dict []), .ref p)]) :=
  (g.grow h).add (.dic (g.fz_at h))
theorem Good.newLst (g : Good K Φ H qs) {p : Addr} {vs : List V} {ds : List D} (h : H p = none) (a : AtAll K (fz Φ H qs) vs ds) : Good K Φ (upd H p (.lst vs)) (qs ++ [(.own ds, .ref p)]) := by
  have g2 := g.grow (o := .lst vs) h
  have e : ow (qs ++ [(.own ds, .ref p)]) = ow qs ++ [p] := by rw [ow_app, ow_own]
  have hp := g.fresh h
  have sm : Same (fz Φ H qs) (Eng.less (upd H p (.lst vs)) ((ow qs ++ [p]) ++ Φ.hid)) := less_same (fun a u q _ => by rw [upd_ne (ne_of_none q h)]; exact q) fun a u q n m => by
    rw [List.append_assoc] at m
    rcases List.mem_append.mp m with m | m
    · exact n (List.mem_append_left _ m)
    · rcases List.mem_append.mp m with m | m
      · exact ne_of_none q h (List.mem_singleton.mp m)
      · exact n (List.mem_append_right _ m)
  have pn : p ∉ ow qs := fun m => hp (List.mem_append_left _ m)
  refine ⟨?_, fun q hq => ?_, fun a o q => ?_, g.hidB⟩
  · rw [e]
    exact List.nodup_append.mpr ⟨g.nd, by simp, fun x hx y hy => by
      have := List.mem_singleton.mp hy
      subst this
      exact fun z => pn (z ▸ hx)⟩
  · rw [e]
    rcases List.mem_append.mp hq with hq | hq
    · have r := (g.rv q hq).mono sm
      cases r with
      | d a => exact .d a
      | own e a => exact .own (by rw [upd_ne (ne_of_none e h)]; exact e) a
    · have e2 := List.mem_singleton.mp hq
      subst e2
      exact .own upd_same (a.mono sm)
  · rw [e]
    have b := g.base a o q
    have nap : a ≠ p := ne_of_none b.2 h
    refine ⟨fun m => ?_, by rw [upd_ne nap]; exact b.2⟩
    rcases List.mem_append.mp m with m | m
    · exact b.1 m
    · exact nap (List.mem_singleton.mp m)
/-- an owned list is frozen -/
theorem Good.freeze (g : Good K Φ H (zs ++ (.own xs, v) :: qs)) : Good K Φ H (zs ++ (.d (.list xs), v) :: qs) := by
  have r := g.rv (.own xs, v) (by simp)
  obtain ⟨a, vs, rfl, ha, hv⟩ := r.ofOwn
  have e1 : ow (zs ++ (.own xs, V.ref a) :: qs) = ow zs ++ a :: ow qs := by rw [ow_app]; rfl
  have e2 : ow (zs ++ (.d (.list xs), V.ref a) :: qs) = ow zs ++ ow qs := by rw [ow_app]; rfl
  have sub : ∀ b, b ∈ ow zs ++ ow qs → b ∈ ow zs ++ a :: ow qs := fun b h => by
    rcases List.mem_append.mp h with h | h
    · exact List.mem_append_left _ h
    · exact List.mem_append_right _ (List.mem_cons_of_mem _ h)
  have sm : Same (Eng.less H ((ow zs ++ a :: ow qs) ++ Φ.hid)) (Eng.less H ((ow zs ++ ow qs) ++ Φ.hid)) := less_same (fun _ _ e _ => e) fun b o e n m => n (by
    rcases List.mem_append.mp m with m | m
    · exact List.mem_append_left _ (sub b m)
    · exact List.mem_append_right _ m)
  have nd := g.nd
  rw [e1] at nd
  have nd2 : (a :: (ow zs ++ ow qs)).Nodup := (List.perm_middle (a := a) (l₁ := ow zs) (l₂ := ow qs)).nodup_iff.mp nd
  have na : a ∉ ow zs ++ ow qs := (List.nodup_cons.mp nd2).1
  have nh : a ∉ Φ.hid := fun m => g.hid_ow m (by rw [e1]; exact List.mem_append_right _ List.mem_cons_self)
  refine ⟨by rw [e2]; exact (List.nodup_cons.mp nd2).2, fun q hq => ?_, fun b o h => ⟨fun m => (g.base b o h).1 (by rw [e1]; rw [e2] at m; exact sub b m), (g.base b o h).2⟩, g.hidB⟩
  rw [e2]
  rcases List.mem_append.mp hq with hq | hq
  · have := g.rv q (List.mem_append_left _ hq)
    rw [e1] at this
    exact this.mono sm
  · rcases List.mem_cons.mp hq with rfl | hq
    · rw [e1] at hv
      refine .d (.lst (.inl (.inl (less_of (fun m => ?_) ha))) (hv.mono sm))
      rcases List.mem_append.mp m with m | m
      · exact na m
      · exact nh m
    · have := g.rv q (List.mem_append_right _ (List.mem_cons_of_mem _ hq))
      rw [e1] at this
      exact this.mono sm
/-- an owned list is changed -/
theorem Good.change {xs xs' : List D} {a : Addr} {vs' : List V} (g : Good K Φ H (zs ++ (.own xs, .ref a) :: qs)) (hv : AtAll K (fz Φ H (zs ++ (.own xs, .ref a) :: qs)) vs' xs') :
    Good K Φ (upd H a (.lst vs')) (zs ++ (.own xs', .ref a) :: qs) := by
  have e1 : ow (zs ++ (.own xs, V.ref a) :: qs) = ow zs ++ a :: ow qs := by rw [ow_app]; rfl
  have e2 : ow (zs ++ (.own xs', V.ref a) :: qs) = ow zs ++ a :: ow qs := by rw [ow_app]; rfl
  have am : a ∈ ow zs ++ a :: ow qs := List.mem_append_right _ List.mem_cons_self
  have sm : Same (Eng.less H ((ow zs ++ a :: ow qs) ++ Φ.hid)) (Eng.less (upd H a (.lst vs')) ((ow zs ++ a :: ow qs) ++ Φ.hid)) := less_same (fun b o e n => by
    have nb : b ≠ a := fun z => n (List.mem_append_left _ (by rw [z]; exact am))
    rw [upd_ne nb]; exact e) fun _ _ _ n => n
  have nd := g.nd
  have nd1 := nd
  rw [e1] at nd1
  have nd2 : (a :: (ow zs ++ ow qs)).Nodup := (List.perm_middle (a := a) (l₁ := ow zs) (l₂ := ow qs)).nodup_iff.mp nd1
  have na : a ∉ ow zs ++ ow qs := (List.nodup_cons.mp nd2).1
  have other : ∀ q, (q ∈ zs ∨ q ∈ qs) → RV K (Eng.less (upd H a (.lst vs')) ((ow zs ++ a :: ow qs) ++ Φ.hid)) (upd H a (.lst vs')) q := fun q hq => by
    have hm : q ∈ zs ++ (.own xs, .ref a) :: qs := by
      rcases hq with h | h
      · exact List.mem_append_left _ h
      · exact List.mem_append_right _ (List.mem_cons_of_mem _ h)
    have r := g.rv q hm
    rw [e1] at r
    have r := r.mono sm
    cases r with
    | d a => exact .d a
    | @own ys b ws e h =>
      refine .own ?_ h
      have : b ≠ a := fun z => na (by
        subst z
        rcases hq with h | h
        · exact List.mem_append_left _ (ow_mem h)
        · exact List.mem_append_right _ (ow_mem h))
      rw [upd_ne this]; exact e
  refine ⟨by rw [e2, ← e1]; exact nd, fun q hq => ?_, fun b o h => ?_, g.hidB⟩
  · rw [e2]
    rcases List.mem_append.mp hq with hq | hq
    · exact other q (.inl hq)
    · rcases List.mem_cons.mp hq with rfl | hq
      · unfold fz at hv
        rw [e1] at hv
        exact .own upd_same (hv.mono sm)
      · exact other q (.inr hq)
  · have b1 := g.base b o h
    rw [e2, ← e1]
    refine ⟨b1.1, ?_⟩
    have : b ≠ a := fun z => b1.1 (by rw [e1, z]; exact am)
    rw [upd_ne this]; exact b1.2
/-- what a pair of the list lets one read -/
theorem Good.seqL (g : Good K Φ H qs) {x : Val} {v : V} {ds : List D} (h : (x, v) ∈ qs) (e : x.dat = .list ds) : ∃ a vs, v = .ref a ∧ LR K H a vs ∧ AtAll K (fz Φ H qs) vs ds := by
  have r := g.rv _ h
  cases x with
  | d t =>
    have q : At K (Eng.less H (ow qs ++ Φ.hid)) v t := r.ofD
    have e : t = .list ds := e
    subst e
    cases q with
    | lst a b => exact ⟨_, _, rfl, a.mono less_self, b⟩
  | own xs =>
    obtain ⟨a, vs, rfl, ha, hv⟩ := r.ofOwn
    have e : PyData.list xs = .list ds := e
    injection e with e
    subst e
    exact ⟨a, vs, rfl, .inl (.inl ha), hv⟩
theorem Good.seqT (g : Good K Φ H qs) {x : Val} {v : V} {ds : List D} (h : (x, v) ∈ qs) (e : x.dat = .tuple ds) : ∃ a vs, v = .ref a ∧ SqT K H a vs ∧ AtAll K (fz Φ H qs) vs ds := by
  have r := g.rv _ h
  cases x with
  | d t =>
    have q : At K (Eng.less H (ow qs ++ Φ.hid)) v t := r.ofD
    have e : t = .tuple ds := e
    subst e
    cases q with
    | tup a b => exact ⟨_, _, rfl, sqT_mono less_self a, b⟩
  | own xs =>
    have e : PyData.list xs = .tuple ds := e
    cases e
theorem Good.atD (g : Good K Φ H qs) {t : D} {v : V} (h : (Val.d t, v) ∈ qs) : At K (fz Φ H qs) v t := (g.rv _ h).ofD
theorem Good.int (g : Good K Φ H qs) {x : Val} {v : V} {i : Int} (h : (x, v) ∈ qs) (e : x.dat = .int i) : v = .int i := by
  cases x with
  | d t =>
    have q := g.atD h
    have e : t = .int i := e
    subst e
    cases q with
    | int => rfl
  | own xs => cases e
theorem Good.bool (g : Good K Φ H qs) {x : Val} {v : V} {i : Bool} (h : (x, v) ∈ qs) (e : x.dat = .bool i) : v = .bl i := by
  cases x with
  | d t =>
    have q := g.atD h
    have e : t = .bool i := e
    subst e
    cases q with
    | bl => rfl
  | own xs => cases e
theorem Good.str (g : Good K Φ H qs) {x : Val} {v : V} {i : Str} (h : (x, v) ∈ qs) (e : x.dat = .str i) : v = .str i := by
  cases x with
  | d t =>
    have q := g.atD h
    have e : t = .str i := e
    subst e
    cases q with
    | str => rfl
  | own xs => cases e
theorem Good.non (g : Good K Φ H qs) {x : Val} {v : V} (h : (x, v) ∈ qs) (e : x.dat = .none) : v = .non := by
  cases x with
  | d t =>
    have q := g.atD h
    have e : t = .none := e
    subst e
    cases q with
    | non => rfl
  | own xs => cases e
mutual
theorem At.dp {K : PySem.W.Frag} {F H : Hp} (s : Same F H) : ∀ {v : V} {t : D}, At K F v t → t.canLay0 = true → Dp K H v t
  | _, _, .non, _ => .non
  | _, _, .bl b, _ => .bl b
  | _, _, .int i, _ => .int i
  | _, _, .str x, _ => .str x
  | _, _, .lst q r, h => .lst (q.mono s).sq (AtAll.dp s r (by simpa [PyData.canLay0] using h))
  | _, _, .tup q r, h => .tup (sqT_mono s q) (AtAll.dp s r (by simpa [PyData.canLay0] using h))
  | _, _, .dic q, h => by simp [PyData.canLay0] at h
theorem AtAll.dp {K : PySem.W.Frag} {F H : Hp} (s : Same F H) : ∀ {vs : List V} {ts : List D}, AtAll K F vs ts → PyData.canLayAll0 ts = true → DpAll K H vs ts
  | _, _, .nil, _ => .nil
  | _, _, .cons q r, h => by
    have h' := Bool.and_eq_true_iff.mp (by simpa only [PyData.canLayAll0] using h)
    exact .cons (At.dp s q h'.1) (AtAll.dp s r h'.2)
end
theorem Good.dp (g : Good K Φ H qs) {x : Val} {v : V} (h : (x, v) ∈ qs) (c : x.dat.canLay0 = true) : Dp K H v x.dat := by
  cases x with
  | d t => exact (g.atD h).dp less_self c
  | own xs =>
    obtain ⟨a, vs, rfl, q, r⟩ := g.seqL h rfl
    exact .lst q.sq (r.dp less_self (by simpa [PyData.canLay0, Val.dat] using c))
end

/-! ### frames: slots -/
inductive PR : List (Option Val) → Sl → List Pr → Prop
  | nil : PR [] [] []
  | skip {ρ : List (Option Val)} {σ : Sl} {ps : List Pr} {s : Option V} : PR ρ σ ps → PR (none :: ρ) (s :: σ) ps
  | cons {ρ : List (Option Val)} {σ : Sl} {ps : List Pr} {x : Val} {v : V} : PR ρ σ ps → PR (some x :: ρ) (some v :: σ) ((x, v) :: ps)
theorem PR.len : ∀ {ρ : List (Option Val)} {σ : Sl} {ps : List Pr}, PR ρ σ ps → ρ.length = σ.length
  | _, _, _, .nil => rfl
  | _, _, _, .skip h => by simp [h.len]
  | _, _, _, .cons h => by simp [h.len]
theorem PR.get : ∀ {ρ : List (Option Val)} {σ : Sl} {ps : List Pr} {i : Nat} {x : Val}, PR ρ σ ps → ρ[i]? = some (some x) → ∃ v, σ[i]? = some (some v) ∧ (x, v) ∈ ps
  | _, _, _, _, _, .nil, e => by simp at e
  | _, _, _, 0, _, .skip _, e => by simp at e
  | _, _, _, i + 1, x, .skip h, e => by
    obtain ⟨v, h1, h2⟩ := h.get (i := i) (x := x) (by simpa using e)
    exact ⟨v, by simpa using h1, h2⟩
  | _, _, _, 0, _, .cons _, e => by simp at e; subst e; exact ⟨_, rfl, List.mem_cons_self⟩
  | _, _, _, i + 1, x, .cons h, e => by
    obtain ⟨v, h1, h2⟩ := h.get (i := i) (x := x) (by simpa using e)
    exact ⟨v, by simpa using h1, List.mem_cons_of_mem _ h2⟩
/-- a slot is set: what was there goes -/
theorem PR.set : ∀ {ρ : List (Option Val)} {σ : Sl} {ps : List Pr} {i : Nat} (x : Val) (v : V), PR ρ σ ps → i < ρ.length → ∃ ps' zs, PR (ρ.set i (some x)) (σ.set i (some v)) ps' ∧ (ps' ++ zs).Perm ((x, v) :: ps)
  | _, _, _, _, x, v, .nil, h => by simp at h
  | _, _, _, 0, x, v, .skip h, _ => ⟨_, [], .cons h, by simp⟩
  | _, _, _, i + 1, x, v, .skip h, l => by
    obtain ⟨ps', zs, h1, h2⟩ := h.set (i := i) x v (by simpa using l)
    exact ⟨ps', zs, .skip h1, h2⟩
  | _, _, _, 0, x, v, .cons (x := y) (v := w) h, _ => ⟨_, [(y, w)], .cons h, by
    refine List.Perm.trans (List.perm_append_comm) ?_
    exact List.Perm.swap _ _ _⟩
  | _, _, _, i + 1, x, v, .cons (x := y) (v := w) h, l => by
    obtain ⟨ps', zs, h1, h2⟩ := h.set (i := i) x v (by simpa using l)
    exact ⟨_, zs, .cons h1, (List.Perm.cons _ h2).trans (List.Perm.swap _ _ _)⟩
/-- a slot is forgotten on the left -/
theorem PR.drop : ∀ {ρ : List (Option Val)} {σ : Sl} {ps : List Pr} (i : Nat), PR ρ σ ps → ∃ ps' zs, PR (ρ.set i none) σ ps' ∧ (ps' ++ zs).Perm ps
  | _, _, _, _, .nil => ⟨[], [], .nil, .refl _⟩
  | _, _, _, 0, .skip h => ⟨_, [], .skip h, by simp⟩
  | _, _, _, i + 1, .skip h => by
    obtain ⟨ps', zs, h1, h2⟩ := h.drop i
    exact ⟨ps', zs, .skip h1, h2⟩
  | _, _, _, 0, .cons (x := y) (v := w) h => ⟨_, [(y, w)], .skip h, List.perm_append_comm⟩
  | _, _, _, i + 1, .cons h => by
    obtain ⟨ps', zs, h1, h2⟩ := h.drop i
    exact ⟨_, zs, .cons h1, List.Perm.cons _ h2⟩
/-- a slot's value known otherwise, where it stands -/
theorem PR.change : ∀ {ρ : List (Option Val)} {σ : Sl} {ps : List Pr} {i : Nat} {x : Val}, PR ρ σ ps → ρ[i]? = some (some x) → ∃ v as bs, ps = as ++ (x, v) :: bs ∧ σ[i]? = some (some v) ∧ ∀ y, PR (ρ.set i (some y)) σ (as ++ (y, v) :: bs)
  | _, _, _, _, _, .nil, e => by simp at e
  | _, _, _, 0, _, .skip _, e => by simp at e
  | _, _, _, i + 1, x, .skip h, e => by
    obtain ⟨v, as, bs, h1, h2, h3⟩ := h.change (i := i) (x := x) (by simpa using e)
    exact ⟨v, as, bs, h1, by simpa using h2, fun y => .skip (h3 y)⟩
  | _, _, _, 0, _, .cons h, e => by
    simp at e; subst e
    exact ⟨_, [], _, rfl, rfl, fun y => .cons h⟩
  | _, _, _, i + 1, x, .cons (x := z) (v := w) h, e => by
    obtain ⟨v, as, bs, h1, h2, h3⟩ := h.change (i := i) (x := x) (by simpa using e)
    exact ⟨v, (z, w) :: as, bs, by rw [h1]; rfl, by simpa using h2, fun y => .cons (h3 y)⟩

/-- the state of a frame: slots, what is in hand, the heap; fx: the slots that must keep their value -/
def RS (K : PySem.W.Frag) (Φ : Fm) (fx : List (Nat × V)) (ρ : List (Option Val)) (tm : List Pr) (σ : Sl) (H : Hp) : Prop :=
  ∃ ps, PR ρ σ ps ∧ Good K Φ H (ps ++ tm) ∧ ∀ p ∈ fx, σ[p.1]? = some (some p.2)
end Eng
set_option Elab.async false
set_option linter.all false
set_option maxRecDepth 100000
set_option maxHeartbeats 4000000
/-! Eng2: the own small language and its evaluator. -/
namespace Eng
open PySem PySem.Spec PyProof.Rows L2

abbrev Env := List (Option Val)

inductive MK where
  | non | bl (b : Bool) | int (i : Int) | str (x : Str)
def MK.dat : MK → D
  | .non => .none
  | .bl b => .bool b
  | .int i => .int i
  | .str x => .str x

/-- what is done with values alone -/
inductive Prim where
  | add | sub | mul | fdiv | mod | pow | neg
  | eq | ne | lt | le | gt | ge | isin | notin | isNone | notNone
  | idx | sl (lo hi : Bool) | rev
  | len | abs | int | str | tuple | list | all | any | sum | maxL | minL | max2 | min2 | divmod | gcd | repr | sorted
  | isa (t : List String)
  deriving DecidableEq

def szL : Nat := 1000000
def seqOf : D → Option (List D)
  | .list xs => some xs
  | .tuple xs => some xs
  | _ => none
def tyOf : D → String
  | .none => "NoneType"
  | .bool _ => "bool"
  | .int _ => "int"
  | .str _ => "str"
  | .list _ => "list"
  | .tuple _ => "tuple"
  | .dict _ => "dict"
def isA (t : D) : List String → Bool
  | [] => false
  | x :: r => tyOf t == x || (x == "int" && tyOf t == "bool") || isA t r
def emptySeq : D → Bool
  | .list [] => true
  | .tuple [] => true
  | _ => false
def sameKindEmpty : D → D → Bool
  | .list [], .list [] => true
  | .tuple [], .tuple [] => true
  | _, _ => false
def isSeq (t : D) : Bool := (seqOf t).isSome
def eqD (a b : D) : Option Bool :=
  if SeqAt.shaped a && SeqAt.shaped b then some (PyData.eqv a b)
  else if isSeq a && isSeq b && (emptySeq a || emptySeq b) then some (sameKindEmpty a b) else none
def isNoneD : D → Bool
  | .none => true
  | _ => false
def flatD : D → Bool
  | .none => true
  | .bool _ => true
  | .int _ => true
  | .str _ => true
  | _ => false
def cut {α : Type} (xs : List α) (lo hi : Option Int) : List α := (xs.drop (HT.sIx xs.length 0 lo)).take (HT.sIx xs.length xs.length hi - HT.sIx xs.length 0 lo)
def bools : List D → Option (List Bool)
  | [] => some []
  | .bool b :: r => (bools r).map (b :: ·)
  | _ :: _ => none
def intsOf : List D → Option (List Int)
  | [] => some []
  | .int i :: r => (intsOf r).map (i :: ·)
  | _ :: _ => none
def vi (i : Int) : Option Val := some (.d (.int i))
def vb (b : Bool) : Option Val := some (.d (.bool b))
def mulOk (i j : Int) : Bool := decide (i.natAbs.log2 + j.natAbs.log2 < 1000000)
def divOk (j : Int) : Bool := decide (j ≠ 0 ∧ j.natAbs.log2 < 9000)
def cmpI (f : Int → Int → Bool) (a b : D) : Option Val := match a, b with
  | .int i, .int j => vb (f i j)
  | _, _ => none
def sliceOf (x : D) (lo hi : Option Int) : Option Val := match x with
  | .list xs => some (.own (cut xs lo hi))
  | .tuple xs => some (.d (.tuple (cut xs lo hi)))
  | _ => none

def prim : Prim → List Val → Option Val
  | .add, [a, b] => (match a.dat, b.dat with
    | .int i, .int j => vi (i + j)
    | .tuple xs, .tuple ys => if xs.length + ys.length ≤ szL then some (.d (.tuple (xs ++ ys))) else none
    | .list xs, .list ys => if xs.length + ys.length ≤ szL then some (.own (xs ++ ys)) else none
    | .str x, .str y => if x.length + y.length ≤ szL then some (.d (.str (x ++ y))) else none
    | _, _ => none)
  | .sub, [a, b] => (match a.dat, b.dat with
    | .int i, .int j => vi (i - j)
    | _, _ => none)
  | .mul, [a, b] => (match a.dat, b.dat with
    | .int i, .int j => if mulOk i j then vi (i * j) else none
    | .tuple xs, .int k => if xs.length ≤ 1000 ∧ k ≤ 1000 ∧ -1000 ≤ k then some (.d (.tuple (List.replicate k.toNat xs).flatten)) else none
    | .list xs, .int k => (match a with
      | .own _ => if xs.length ≤ 1000 ∧ k ≤ 1000 ∧ -1000 ≤ k then some (.own (List.replicate k.toNat xs).flatten) else none
      | .d _ => none)
    | _, _ => none)
  | .fdiv, [a, b] => (match a.dat, b.dat with
    | .int i, .int j => if divOk j then vi (i.fdiv j) else none
    | _, _ => none)
  | .mod, [a, b] => (match a.dat, b.dat with
    | .int i, .int j => if j ≠ 0 then vi (i.fmod j) else none
    | _, _ => none)
  | .pow, [a, b] => (match a.dat, b.dat with
    | .int i, .int j => if 0 ≤ j ∧ j ≤ 1000 ∧ i.natAbs < 2 ^ 64 then vi (i ^ j.toNat) else none
    | _, _ => none)
  | .neg, [a] => (match a.dat with
    | .int i => vi (-i)
    | _ => none)
  | .eq, [a, b] => (eqD a.dat b.dat).bind vb
  | .ne, [a, b] => (eqD a.dat b.dat).bind fun c => vb (!c)
  | .lt, [a, b] => cmpI (fun i j => decide (i < j)) a.dat b.dat
  | .le, [a, b] => cmpI (fun i j => decide (i ≤ j)) a.dat b.dat
  | .gt, [a, b] => cmpI (fun i j => decide (j < i)) a.dat b.dat
  | .ge, [a, b] => cmpI (fun i j => decide (j ≤ i)) a.dat b.dat
  | .isin, [a, b] => (match seqOf b.dat with
    | some ys => if SeqAt.shaped a.dat && ys.all SeqAt.shaped then vb (ys.any fun y => PyData.eqv y a.dat) else none
    | none => none)
  | .notin, [a, b] => (match seqOf b.dat with
    | some ys => if SeqAt.shaped a.dat && ys.all SeqAt.shaped then vb (!ys.any fun y => PyData.eqv y a.dat) else none
    | none => none)
  | .isNone, [a] => vb (isNoneD a.dat)
  | .notNone, [a] => vb (!isNoneD a.dat)
  | .idx, [a, b] => (match seqOf a.dat, b.dat with
    | some xs, .int i => (atI xs i).map Val.d
    | _, _ => none)
  | .sl false false, [a] => sliceOf a.dat none none
  | .sl true false, [a, l] => (match l.dat with
    | .int i => sliceOf a.dat (some i) none
    | _ => none)
  | .sl false true, [a, h] => (match h.dat with
    | .int j => sliceOf a.dat none (some j)
    | _ => none)
  | .rev, [a] => (match a.dat with
    | .list xs => some (.own xs.reverse)
    | .tuple xs => some (.d (.tuple xs.reverse))
    | _ => none)
  | .len, [a] => (match seqOf a.dat with
    | some xs => vi xs.length
    | none => none)
  | .abs, [a] => (match a.dat with
    | .int i => vi (if i < 0 then -i else i)
    | _ => none)
  | .int, [a] => (match a.dat with
    | .int i => vi i
    | .bool b => vi (if b then 1 else 0)
    | _ => none)
  | .tuple, [a] => (seqOf a.dat).map fun xs => .d (.tuple xs)
  | .list, [a] => (seqOf a.dat).map Val.own
  | .all, [a] => (match a.dat with
    | .list xs => (bools xs).bind fun bs => vb (bs.all id)
    | _ => none)
  | .any, [a] => (match a.dat with
    | .list xs => (bools xs).bind fun bs => vb (bs.any id)
    | _ => none)
  | .maxL, [a] => (match seqOf a.dat with
    | some xs => (intsOf xs).bind fun ns => (match ns with
      | [] => none
      | n :: r => vi (r.foldl max n))
    | none => none)
  | .minL, [a] => (match seqOf a.dat with
    | some xs => (intsOf xs).bind fun ns => (match ns with
      | [] => none
      | n :: r => vi (r.foldl min n))
    | none => none)
  | .sum, [a] => (match a.dat with
    | .list xs => (intsOf xs).bind fun ns => vi ns.sum
    | _ => none)
  | .max2, [a, b] => (match a.dat, b.dat with
    | .int i, .int j => vi (if j > i then j else i)
    | _, _ => none)
  | .min2, [a, b] => (match a.dat, b.dat with
    | .int i, .int j => vi (if j < i then j else i)
    | _, _ => none)
  | .divmod, [a, b] => (match a.dat, b.dat with
    | .int i, .int j => if 0 < j ∧ j < 1073741824 then some (.d (.tuple [.int (i / j), .int (i % j)])) else none
    | _, _ => none)
  | .gcd, [a, b] => (match a.dat, b.dat with
    | .int i, .int j => vi (Int.gcd i j)
    | _, _ => none)
  | .repr, [a] => if SeqAt.shaped a.dat && a.dat.showable && decide (a.dat.shown.length ≤ szL) then some (.d (.str a.dat.shown)) else none
  | .isa ts, [a] => vb (isA a.dat ts)
  | _, _ => none

/-! ### targets -/
inductive MT where
  | nm (i : Nat)
  | ixc (i : Nat) (k : Int)
  | tp (is : List MT)

def setS (ρ : Env) (i : Nat) (x : Val) : Option Env := if i < ρ.length then some (ρ.set i (some x)) else none
mutual
def bindT : MT → D → Env → Option Env
  | .nm i, t, ρ => setS ρ i (.d t)
  | .ixc i k, t, ρ => (match ρ[i]? with
    | some (some (.own xs)) => (ixN xs.length k).bind fun j => setS ρ i (.own (xs.set j t))
    | _ => none)
  | .tp ts, t, ρ => (match t with
    | .tuple ds => bindTs ts ds ρ
    | _ => none)
def bindTs : List MT → List D → Env → Option Env
  | [], [], ρ => some ρ
  | t :: ts, x :: xs, ρ => (bindT t x ρ).bind fun ρ1 => bindTs ts xs ρ1
  | _, _, _ => none
end

/-! ### expressions -/
mutual
inductive ME where
  | var (i : Nat)
  | k (c : MK)
  | glob (i : Nat)
  | prim (p : Prim) (as : MEs)
  | chain (p q : Prim) (as c : MEs)
  | cut (as : MEs) (lo hi : ME)
  | not (a : ME)
  | and (a b : ME)
  | or (a b : ME)
  | ite (c a b : ME)
  | fn (f : Nat) (as : MEs)
  | fnK (f : Nat) (perm : List Nat) (as : MEs)
  | tup (as : MEs)
  | lst (as : MEs)
  | dic
  | comp (elt : ME) (t : MT) (it : MI) (ifs : MEs) (own : List Nat)
inductive MEs where
  | nil
  | cons (e : ME) (r : MEs)
  | star (e : ME) (r : MEs)
inductive MI where
  | val (e : ME)
  | rng1 (e : ME)
  | rng2 (e f : ME)
  | zip (e f : ME)
  | enum (e : ME)
end

inductive Opv where
  | sl (i : Nat)
  | vl (v : Val)
def slotV (ρ : Env) (i : Nat) : Option Val := ρ[i]?.join
def resolve (ρ : Env) : List Opv → Option (List Val)
  | [] => some []
  | .sl i :: r => (slotV ρ i).bind fun v => (resolve ρ r).map (v :: ·)
  | .vl v :: r => (resolve ρ r).map (v :: ·)
/-- arguments are handed over: lists of one's own leave their slots -/
def takeAll : List Opv → Env → Option (List Val × Env)
  | [], ρ => some ([], ρ)
  | .sl i :: r, ρ => (slotV ρ i).bind fun v => (takeAll r (match v with
    | .own _ => ρ.set i none
    | .d _ => ρ)).map fun w => (v :: w.1, w.2)
  | .vl v :: r, ρ => (takeAll r ρ).map fun w => (v :: w.1, w.2)
/-- and come back -/
def putAll : List Opv → List Val → List Val → Env → Env
  | .sl i :: r, .own _ :: xs, w :: ws, ρ => (putAll r xs ws ρ).set i (some w)
  | _ :: r, _ :: xs, _ :: ws, ρ => putAll r xs ws ρ
  | _, _, _, ρ => ρ
def wipeE (ρ : Env) : List Nat → Env
  | [] => ρ
  | v :: vs => (wipeE ρ vs).set v none
def asB : Val → Option Bool
  | .d (.bool b) => some b
  | _ => none

def compLoop (bind : D → Env → Option Env) (cond : Env → Option (Bool × Env)) (elt : Env → Option (Val × Env)) (own : List Nat) : List D → Env → Option (List D × Env)
  | [], ρ => some ([], ρ)
  | t :: ts, ρ => (bind t ρ).bind fun ρ1 => (cond ρ1).bind fun br =>
    if br.1 then (elt br.2).bind fun vr => (compLoop bind cond elt own ts (wipeE vr.2 own)).map fun rr => (vr.1.dat :: rr.1, rr.2)
    else compLoop bind cond elt own ts (wipeE br.2 own)

structure Ctx where
  gl : Nat → Option D
  fn : Nat → List Val → Option (Val × List Val)

def pick {α : Type} (xs : List α) : List Nat → Option (List α)
  | [] => some []
  | k :: ks => xs[k]?.bind fun x => (pick xs ks).map (x :: ·)

def pairUp : List D → List D → List D
  | x :: xs, y :: ys => .tuple [x, y] :: pairUp xs ys
  | _, _ => []
def numbered (n : Nat) : List D → List D
  | [] => []
  | x :: xs => .tuple [.int n, x] :: numbered (n + 1) xs
def upTo (lo : Int) (n : Nat) : List D := (List.range n).map fun (k : Nat) => PyData.int (lo + (k : Int))
def okR (i : Int) : Bool := decide (i.natAbs < 4611686018427387904)

mutual
def den (C : Ctx) : ME → Env → Option (Val × Env)
  | .var i, ρ => (match slotV ρ i with
    | some (.d t) => some (.d t, ρ)
    | some (.own xs) => some (.d (.list xs), ρ.set i (some (.d (.list xs))))
    | none => none)
  | .k c, ρ => some (.d c.dat, ρ)
  | .glob i, ρ => (C.gl i).map fun t => (.d t, ρ)
  | .prim p as, ρ => (denOs C as ρ).bind fun r => (resolve r.2 r.1).bind fun xs => (prim p xs).map fun v => (v, r.2)
  | .chain p q as c, ρ => (denOs C as ρ).bind fun r => (resolve r.2 r.1).bind fun xs => (prim p xs).bind fun v => (asB v).bind fun k =>
    if k then (denOs C c r.2).bind fun r2 => (resolve r2.2 r2.1).bind fun ys => (match xs, ys with
      | [_, .d y], [z] => (prim q [.d y, z]).map fun w => (w, r2.2)
      | _, _ => none)
    else some (.d (.bool false), r.2)
  | .cut as lo hi, ρ => (denOs C as ρ).bind fun r => (den C lo r.2).bind fun l => (den C hi l.2).bind fun h => (resolve h.2 r.1).bind fun xs => (match xs, l.1, h.1 with
    | [x], .d (.int i), .d (.int j) => (sliceOf x.dat (some i) (some j)).map fun v => (v, h.2)
    | _, _, _ => none)
  | .not a, ρ => (den C a ρ).bind fun r => (asB r.1).map fun b => (.d (.bool (!b)), r.2)
  | .and a b, ρ => (den C a ρ).bind fun r => (asB r.1).bind fun c => if c then den C b r.2 else some (.d (.bool false), r.2)
  | .or a b, ρ => (den C a ρ).bind fun r => (asB r.1).bind fun c => if c then some (.d (.bool true), r.2) else den C b r.2
  | .ite c a b, ρ => (den C c ρ).bind fun r => (asB r.1).bind fun k => if k then den C a r.2 else den C b r.2
  | .fn f as, ρ => (denOs C as ρ).bind fun r => (takeAll r.1 r.2).bind fun t => (C.fn f t.1).bind fun w => if w.2.length = t.1.length then some (w.1, putAll r.1 t.1 w.2 t.2) else none
  | .fnK f perm as, ρ => (denVs C as ρ).bind fun r => (pick (r.1.map fun x => Val.d x.dat) perm).bind fun xs => (C.fn f xs).bind fun w => if w.2.length = xs.length then some (w.1, r.2) else none
  | .tup as, ρ => (denVs C as ρ).bind fun r => if r.1.length ≤ szL then some (.d (.tuple (r.1.map Val.dat)), r.2) else none
  | .lst as, ρ => (denVs C as ρ).bind fun r => if r.1.length ≤ szL then some (.own (r.1.map Val.dat), r.2) else none
  | .dic, ρ => some (.d (.dict []), ρ)
  | .comp elt t it ifs own, ρ => (denI C it ρ).bind fun r => if r.1.length ≤ szL then
      (compLoop (bindT t) (denC C ifs) (den C elt) own r.1 (wipeE r.2 own)).map fun w => (.own w.1, w.2) else none
/-- operands: a slot's content is read when all stand -/
def denOs (C : Ctx) : MEs → Env → Option (List Opv × Env)
  | .nil, ρ => some ([], ρ)
  | .cons e r, ρ => (match e with
    | .var i => (slotV ρ i).bind fun _ => (denOs C r ρ).map fun w => (.sl i :: w.1, w.2)
    | e => (den C e ρ).bind fun v => (denOs C r v.2).map fun w => (.vl v.1 :: w.1, w.2))
  | .star _ _, _ => none
/-- items of a display -/
def denVs (C : Ctx) : MEs → Env → Option (List Val × Env)
  | .nil, ρ => some ([], ρ)
  | .cons e r, ρ => (den C e ρ).bind fun v => (denVs C r v.2).map fun w => (v.1 :: w.1, w.2)
  | .star e r, ρ => (den C e ρ).bind fun v => (seqOf v.1.dat).bind fun xs => (denVs C r v.2).map fun w => (xs.map Val.d ++ w.1, w.2)
/-- all tests of a list -/
def denC (C : Ctx) : MEs → Env → Option (Bool × Env)
  | .nil, ρ => some (true, ρ)
  | .cons e r, ρ => (den C e ρ).bind fun v => (asB v.1).bind fun b => if b then denC C r v.2 else some (false, v.2)
  | .star _ _, _ => none
/-- what is walked -/
def denI (C : Ctx) : MI → Env → Option (List D × Env)
  | .val e, ρ => (den C e ρ).bind fun v => (seqOf v.1.dat).map fun xs => (xs, v.2)
  | .rng1 e, ρ => (den C e ρ).bind fun v => (match v.1.dat with
    | .int j => if okR j then some (upTo 0 j.toNat, v.2) else none
    | _ => none)
  | .rng2 e f, ρ => (den C e ρ).bind fun v => (den C f v.2).bind fun w => (match v.1.dat, w.1.dat with
    | .int i, .int j => if okR i && okR j then some (upTo i (j - i).toNat, w.2) else none
    | _, _ => none)
  | .zip e f, ρ => (den C e ρ).bind fun v => (den C f v.2).bind fun w => (match v.1.dat, w.1.dat with
    | .list xs, .list ys => some (pairUp xs ys, w.2)
    | .tuple xs, .tuple ys => some (pairUp xs ys, w.2)
    | _, _ => none)
  | .enum e, ρ => (den C e ρ).bind fun v => (match v.1.dat with
    | .list xs => some (numbered 0 xs, v.2)
    | .tuple xs => some (numbered 0 xs, v.2)
    | _ => none)
end

def isOwn : Val → Bool
  | .own _ => true
  | .d _ => false
/-! ### statements -/
inductive Out where
  | nx (ρ : Env)
  | rt (v : Val) (ρ : Env)
  | bk (ρ : Env)
  | ct (ρ : Env)

mutual
inductive MS where
  | asg (i : Nat) (e : ME)
  | par (is : List Nat) (as : MEs)
  | parT (is : List Nat) (as : MEs)
  | unp (t : MT) (e : ME)
  | setI (i : Nat) (ix e : ME)
  | app (i : Nat) (e : ME)
  | ex (e : ME)
  | ifS (c : ME) (a b : MSs)
  | forS (t : MT) (it : MI) (b : MSs)
  | whl (c : ME) (b : MSs)
  | ret (e : ME)
  | retV (i : Nat)
  | brk | cont | pass | never
inductive MSs where
  | nil
  | cons (s : MS) (r : MSs)
end

def setAll : List Nat → List Val → Env → Option Env
  | [], [], ρ => some ρ
  | i :: is, x :: xs, ρ => (setS ρ i x).bind fun ρ1 => setAll is xs ρ1
  | _, _, _ => none

def forLoop (bind : D → Env → Option Env) (body : Env → Option Out) : List D → Env → Option Out
  | [], ρ => some (.nx ρ)
  | t :: ts, ρ => (bind t ρ).bind fun ρ1 => (body ρ1).bind fun o => (match o with
    | .nx ρ2 => forLoop bind body ts ρ2
    | .ct ρ2 => forLoop bind body ts ρ2
    | .bk ρ2 => some (.nx ρ2)
    | .rt v ρ2 => some (.rt v ρ2))
def whlLoop (test : Env → Option (Val × Env)) (body : Env → Option Out) : Nat → Env → Option Out
  | 0, _ => none
  | n + 1, ρ => (test ρ).bind fun r => (asB r.1).bind fun b => if b then (body r.2).bind fun o => (match o with
      | .nx ρ2 => whlLoop test body n ρ2
      | .ct ρ2 => whlLoop test body n ρ2
      | .bk ρ2 => some (.nx ρ2)
      | .rt v ρ2 => some (.rt v ρ2)) else some (.nx r.2)
def fuelW : Nat := 100000000

mutual
def exec (C : Ctx) : MS → Env → Option Out
  | .asg i e, ρ => (den C e ρ).bind fun r => (setS r.2 i r.1).map Out.nx
  | .par is as, ρ => (denVs C as ρ).bind fun r => (setAll is r.1 r.2).map Out.nx
  | .parT is as, ρ => (denVs C as ρ).bind fun r => if r.1.length ≤ szL then (setAll is r.1 r.2).map Out.nx else none
  | .unp t e, ρ => (den C e ρ).bind fun r => (bindT t r.1.dat r.2).map Out.nx
  | .setI i ix e, ρ => (den C e ρ).bind fun r => (slotV r.2 i).bind fun _ => (den C ix r.2).bind fun w => (match slotV w.2 i, w.1.dat with
    | some (.own xs), .int k => (ixN xs.length k).bind fun j => (setS w.2 i (.own (xs.set j r.1.dat))).map Out.nx
    | _, _ => none)
  | .app i e, ρ => (slotV ρ i).bind fun q => if isOwn q then (den C e ρ).bind fun r => (match slotV r.2 i with
    | some (.own xs) => if xs.length < szL then (setS r.2 i (.own (xs ++ [r.1.dat]))).map Out.nx else none
    | _ => none) else none
  | .ex e, ρ => (den C e ρ).map fun r => .nx r.2
  | .ifS c a b, ρ => (den C c ρ).bind fun r => (asB r.1).bind fun k => if k then execs C a r.2 else execs C b r.2
  | .forS t it b, ρ => (denI C it ρ).bind fun r => forLoop (bindT t) (execs C b) r.1 r.2
  | .whl c b, ρ => whlLoop (den C c) (execs C b) fuelW ρ
  | .ret e, ρ => (den C e ρ).map fun r => .rt r.1 r.2
  | .retV i, ρ => (slotV ρ i).map fun v => .rt v (ρ.set i none)
  | .brk, ρ => some (.bk ρ)
  | .cont, ρ => some (.ct ρ)
  | .pass, ρ => some (.nx ρ)
  | .never, _ => none
def execs (C : Ctx) : MSs → Env → Option Out
  | .nil, ρ => some (.nx ρ)
  | .cons s r, ρ => (exec C s ρ).bind fun o => (match o with
    | .nx ρ1 => execs C r ρ1
    | .rt v ρ1 => some (.rt v ρ1)
    | .bk ρ1 => some (.bk ρ1)
    | .ct ρ1 => some (.ct ρ1))
end

/-! ### defs -/
structure Fd where
  name : Str
  ps : List Str
  N : List Str
  asg : List Nat
  body : MSs
def okArgs (asg : List Nat) (xs : List Val) : Bool := asg.all fun i => match xs[i]? with
  | some (.own _) => false
  | _ => true
def allSome : List (Option Val) → Option (List Val)
  | [] => some []
  | some x :: r => (allSome r).map (x :: ·)
  | none :: _ => none
def runF (C : Ctx) (f : Fd) (xs : List Val) : Option (Val × List Val) :=
  if xs.length = f.ps.length ∧ okArgs f.asg xs = true then
    (execs C f.body (xs.map some ++ List.replicate (f.N.length - f.ps.length) none)).bind fun o => (match o with
      | .rt v ρ => (allSome (ρ.take xs.length)).map fun ys => (v, ys)
      | .nx ρ => (allSome (ρ.take xs.length)).map fun ys => (.d .none, ys)
      | _ => none) else none
def ctx (T : List Fd) (gl : Nat → Option D) : Nat → Ctx
  | 0 => ⟨gl, fun _ _ => none⟩
  | n + 1 => ⟨gl, fun i xs => T[i]?.bind fun f => runF (ctx T gl n) f xs⟩
end Eng
set_option Elab.async false
set_option linter.all false
set_option maxRecDepth 100000
set_option maxHeartbeats 4000000
/-! Eng3: what is done with values alone keeps to the evaluator. -/
namespace Eng
open PySem PySem.Spec PyProof.Rows L2

/-- the operands xs stand at ys in a good state, p has an answer, and what follows takes any state with the answer more -/
def rP (K : PySem.W.Frag) (p : Prim) (ys : List V) (H : Hp) (Q : VK) : Prop :=
  ∃ (xs : List Val) (Φ : Fm) (qs : List Pr) (v : Val), Good K Φ H qs ∧ xs.length = ys.length ∧ (∀ q ∈ xs.zip ys, q ∈ qs) ∧ prim p xs = some v ∧ ∀ y H', Good K Φ H' (qs ++ [(v, y)]) → Q y H'

theorem len1 {α : Type} {xs : List α} {y : V} (h : xs.length = [y].length) : ∃ a, xs = [a] := match xs, h with | [a], _ => ⟨a, rfl⟩
theorem len2 {α : Type} {xs : List α} {y z : V} (h : xs.length = [y, z].length) : ∃ a b, xs = [a, b] := match xs, h with | [a, b], _ => ⟨a, b, rfl⟩
theorem szLine : szL ≤ sizeLine := by decide
theorem vi_eq {i : Int} {v : Val} (h : vi i = some v) : v = .d (.int i) := (Option.some.inj h).symm
theorem vb_eq {i : Bool} {v : Val} (h : vb i = some v) : v = .d (.bool i) := (Option.some.inj h).symm
section
variable {X : Cx}
/-- the operands of a rule of two -/
theorem rP.two {K : PySem.W.Frag} {p : Prim} {x y : V} {H : Hp} {Q : VK} (h : rP K p [x, y] H Q) :
    ∃ (a b : Val) (Φ : Fm) (qs : List Pr) (v : Val), Good K Φ H qs ∧ (a, x) ∈ qs ∧ (b, y) ∈ qs ∧ prim p [a, b] = some v ∧ ∀ y H', Good K Φ H' (qs ++ [(v, y)]) → Q y H' := by
  obtain ⟨xs, Φ, qs, v, g, hl, hm, hp, k⟩ := h
  obtain ⟨a, b, rfl⟩ := len2 hl
  exact ⟨a, b, Φ, qs, v, g, hm _ (by simp), hm _ (by simp), hp, k⟩
theorem rP.one {K : PySem.W.Frag} {p : Prim} {x : V} {H : Hp} {Q : VK} (h : rP K p [x] H Q) :
    ∃ (a : Val) (Φ : Fm) (qs : List Pr) (v : Val), Good K Φ H qs ∧ (a, x) ∈ qs ∧ prim p [a] = some v ∧ ∀ y H', Good K Φ H' (qs ++ [(v, y)]) → Q y H' := by
  obtain ⟨xs, Φ, qs, v, g, hl, hm, hp, k⟩ := h
  obtain ⟨a, rfl⟩ := len1 hl
  exact ⟨a, Φ, qs, v, g, hm _ (by simp), hp, k⟩
variable {K : PySem.W.Frag} {Φ : Fm} {H : Hp} {qs : List Pr} {Q : VK} {v : Val}
/-- the answer is an int, a bool -/
theorem kI {i : Int} (g : Good K Φ H qs) (e : vi i = some v) (k : ∀ y H', Good K Φ H' (qs ++ [(v, y)]) → Q y H') : Q (.int i) H := k _ _ (by rw [vi_eq e]; exact g.add (.int i))
theorem kB {i : Bool} (g : Good K Φ H qs) (e : vb i = some v) (k : ∀ y H', Good K Φ H' (qs ++ [(v, y)]) → Q y H') : Q (.bl i) H := k _ _ (by rw [vb_eq e]; exact g.add (.bl i))

theorem or_add : OpR X (binaryOp .Add) fun x y => rP X.K .add [x, y] := by
  intro pins s σ H x y vx vy Q I rx ry h
  obtain ⟨a, b, Φ, qs, v, g, ma, mb, hp, k⟩ := h.two
  simp only [prim] at hp
  split at hp
  · rename_i i j ea eb
    obtain rfl := g.int ma ea
    obtain rfl := g.int mb eb
    exact op_add pins s σ H _ _ vx vy Q I rx ry ⟨i, j, rfl, rfl, kI g hp k⟩
  · rename_i xs ys ea eb
    split at hp
    · rename_i hl
      cases hp
      obtain ⟨p, us, rfl, q1, a1⟩ := g.seqT ma ea
      obtain ⟨r, ws, rfl, q2, a2⟩ := g.seqT mb eb
      refine op_catA pins s σ H _ _ vx vy Q I rx ry ⟨p, r, us, ws, rfl, rfl, q1, q2, ?_, fun e => ?_, fun _ e => ?_, fun _ _ t ht => k _ _ ((g.newTup ht (a1.append a2)))⟩
      · rw [a1.length, a2.length]; exact Nat.le_trans hl szLine
      · subst e
        cases a1
        refine k _ _ (g.add ?_)
        cases b with
        | d t =>
          have := g.atD mb
          have e : t = .tuple ys := eb
          subst e
          exact this
        | own _ => cases eb
      · subst e
        cases a2
        refine k _ _ (g.add ?_)
        rw [List.append_nil]
        cases a with
        | d t =>
          have := g.atD ma
          have e : t = .tuple xs := ea
          subst e
          exact this
        | own _ => cases ea
    · cases hp
  · rename_i xs ys ea eb
    split at hp
    · rename_i hl
      cases hp
      obtain ⟨p, us, rfl, q1, a1⟩ := g.seqL ma ea
      obtain ⟨r, ws, rfl, q2, a2⟩ := g.seqL mb eb
      cases rx
      cases ry
      obtain ⟨its, n, r1, e1, z1⟩ := q1.obj I
      obtain ⟨its2, n2, r2, e2, z2⟩ := q2.obj I
      have hz : us.length + ws.length ≤ sizeLine := by rw [a1.length, a2.length]; exact Nat.le_trans hl szLine
      have hf : H s.heap.objs.size = none := I.hok.fresh (Nat.le_refl _)
      refine PySem.P.add_list e1 e2 ?_ (by rw [List.size_toArray, List.size_toArray, ← r1.length, ← r2.length]; exact hz)
      have ea : its.toArray ++ its2.toArray = (its ++ its2).toArray := by simp
      rw [ea]
      refine ⟨.ref s.heap.objs.size, upd H s.heap.objs.size (.lst (us ++ ws)), I.laid (t' := s.toks) (fun b u e => Heap.get?_push_of_some _ e) (Nat.le_refl _) ?_, rfl, k _ _ (g.newLst hf (a1.append a2))⟩
      exact ⟨by rw [List.length_append]; exact hz, its ++ its2, 0, r1.append r2, Heap.get?_push_size _ rfl⟩
    · cases hp
  · rename_i i j ea eb
    split at hp
    · rename_i hl
      cases hp
      obtain rfl := g.str ma ea
      obtain rfl := g.str mb eb
      exact op_add_str pins s σ H _ _ vx vy Q I rx ry ⟨i, j, rfl, rfl, Nat.le_trans hl szLine, k _ _ (g.add (.str _))⟩
    · cases hp
  · cases hp

theorem or_sub : OpR X (binaryOp .Sub) fun x y => rP X.K .sub [x, y] := by
  intro pins s σ H x y vx vy Q I rx ry h
  obtain ⟨a, b, Φ, qs, v, g, ma, mb, hp, k⟩ := h.two
  simp only [prim] at hp
  split at hp
  · rename_i i j ea eb
    obtain rfl := g.int ma ea
    obtain rfl := g.int mb eb
    exact op_sub pins s σ H _ _ vx vy Q I rx ry ⟨i, j, rfl, rfl, kI g hp k⟩
  · cases hp
theorem or_fdiv : OpR X (binaryOp .FloorDiv) fun x y => rP X.K .fdiv [x, y] := by
  intro pins s σ H x y vx vy Q I rx ry h
  obtain ⟨a, b, Φ, qs, v, g, ma, mb, hp, k⟩ := h.two
  simp only [prim] at hp
  split at hp
  · rename_i i j ea eb
    split at hp
    · rename_i hc
      have hc2 := of_decide_eq_true hc
      obtain rfl := g.int ma ea
      obtain rfl := g.int mb eb
      obtain ⟨t, rfl⟩ := rx
      obtain ⟨t', rfl⟩ := ry
      exact floordiv_int hc2.1 ⟨.int _, H, I.tok _, ⟨_, rfl⟩, kI g hp k⟩ (.inl (PyProof.noPylong_of_log2 hc2.2))
    · cases hp
  · cases hp
theorem or_mod : OpR X (binaryOp .Mod) fun x y => rP X.K .mod [x, y] := by
  intro pins s σ H x y vx vy Q I rx ry h
  obtain ⟨a, b, Φ, qs, v, g, ma, mb, hp, k⟩ := h.two
  simp only [prim] at hp
  split at hp
  · rename_i i j ea eb
    split at hp
    · rename_i hc
      obtain rfl := g.int ma ea
      obtain rfl := g.int mb eb
      exact op_modN pins s σ H _ _ vx vy Q I rx ry ⟨i, j, rfl, rfl, hc, kI g hp k⟩
    · cases hp
  · cases hp
theorem or_pow : OpR X (binaryOp .Pow) fun x y => rP X.K .pow [x, y] := by
  intro pins s σ H x y vx vy Q I rx ry h
  obtain ⟨a, b, Φ, qs, v, g, ma, mb, hp, k⟩ := h.two
  simp only [prim] at hp
  split at hp
  · rename_i i j ea eb
    split at hp
    · rename_i hc
      obtain rfl := g.int ma ea
      obtain rfl := g.int mb eb
      exact op_pow pins s σ H _ _ vx vy Q I rx ry ⟨i, j, rfl, rfl, ⟨hc.1, by omega, hc.2.2⟩, kI g hp k⟩
    · cases hp
  · cases hp
theorem ur_neg : UnR X (unaryOp .USub) fun x => rP X.K .neg [x] := by
  intro pins s σ H x vx Q I rx h
  obtain ⟨a, Φ, qs, v, g, ma, hp, k⟩ := h.one
  simp only [prim] at hp
  split at hp
  · rename_i i ea
    obtain rfl := g.int ma ea
    exact un_neg pins s σ H _ vx Q I rx ⟨i, rfl, kI g hp k⟩
  · cases hp

/-! ### comparisons -/
theorem cmpI_some {f : Int → Int → Bool} {a b : D} {v : Val} (h : cmpI f a b = some v) : ∃ i j, a = .int i ∧ b = .int j ∧ vb (f i j) = some v := by
  unfold cmpI at h
  split at h
  · exact ⟨_, _, rfl, rfl, h⟩
  · cases h
theorem or_cmp {op : CmpOp} {p : Prim} {f : Int → Int → Bool} (ho : OpR X (compareOp op) (rI0 fun i j => .bl (f i j))) (he : ∀ a b, prim p [a, b] = cmpI f a.dat b.dat) : OpR X (compareOp op) fun x y => rP X.K p [x, y] := by
  intro pins s σ H x y vx vy Q I rx ry h
  obtain ⟨a, b, Φ, qs, v, g, ma, mb, hp, k⟩ := h.two
  rw [he] at hp
  obtain ⟨i, j, ea, eb, e⟩ := cmpI_some hp
  obtain rfl := g.int ma ea
  obtain rfl := g.int mb eb
  exact ho pins s σ H _ _ vx vy Q I rx ry ⟨i, j, rfl, rfl, kB g e k⟩
theorem or_lt : OpR X (compareOp .Lt) fun x y => rP X.K .lt [x, y] := or_cmp op_lt fun _ _ => rfl
theorem or_le : OpR X (compareOp .LtE) fun x y => rP X.K .le [x, y] := or_cmp op_le fun _ _ => rfl
theorem or_gt : OpR X (compareOp .Gt) fun x y => rP X.K .gt [x, y] := or_cmp op_gt fun _ _ => rfl
theorem or_ge : OpR X (compareOp .GtE) fun x y => rP X.K .ge [x, y] := or_cmp op_ge fun _ _ => rfl
end
end Eng
set_option Elab.async false
set_option linter.all false
set_option maxRecDepth 100000
set_option maxHeartbeats 4000000
/-! Eng4: ==, in, items, slices. -/
namespace Eng
open PySem PySem.Spec PyProof.Rows L2
section
variable {X : Cx} {K : PySem.W.Frag} {Φ : Fm} {H : Hp} {qs : List Pr}
theorem seqOf_list {t : D} {xs : List D} (h : seqOf t = some xs) : t = .list xs ∨ t = .tuple xs := by
  cases t <;> simp only [seqOf, Option.some.injEq] at h <;> first | (subst h; simp) | cases h
theorem Good.seq (g : Good K Φ H qs) {x : Val} {v : V} {ds : List D} (h : (x, v) ∈ qs) (e : seqOf x.dat = some ds) :
    ∃ a vs, v = .ref a ∧ ((x.dat = .list ds ∧ LR K H a vs) ∨ (x.dat = .tuple ds ∧ SqT K H a vs)) ∧ AtAll K (fz Φ H qs) vs ds := by
  rcases seqOf_list e with e | e
  · obtain ⟨a, vs, r, q, s⟩ := g.seqL h e
    exact ⟨a, vs, r, .inl ⟨e, q⟩, s⟩
  · obtain ⟨a, vs, r, q, s⟩ := g.seqT h e
    exact ⟨a, vs, r, .inr ⟨e, q⟩, s⟩
/-- the relation between an empty one and another: by lengths alone -/
theorem or_eqne (hu : X.A.units + 64 < cLine) (neg : Bool) {p : Prim} (he : ∀ a b, prim p [a, b] = (eqD a.dat b.dat).bind fun c => vb (if neg then !c else c)) :
    OpR X (compareOp (if neg then .NotEq else .Eq)) fun x y => rP X.K p [x, y] := by
  intro pins s σ H x y vx vy Q I rx ry h
  obtain ⟨a, b, Φ, qs, v, g, ma, mb, hp, k⟩ := h.two
  rw [he] at hp
  unfold eqD at hp
  split at hp
  · rename_i hs
    rw [Bool.and_eq_true] at hs
    have da := g.dp ma (SeqAt.canLay_of_shaped hs.1)
    have db := g.dp mb (SeqAt.canLay_of_shaped hs.2)
    cases neg with
    | false => exact op_eqD hu pins s σ H x y vx vy Q I rx ry ⟨_, _, da, db, hs.1, hs.2, kB g hp k⟩
    | true => exact op_neD hu pins s σ H x y vx vy Q I rx ry ⟨_, _, da, db, hs.1, hs.2, kB g hp k⟩
  · split at hp
    · rename_i hs
      simp only [Bool.and_eq_true, Bool.or_eq_true, isSeq, Option.isSome_iff_exists] at hs
      obtain ⟨⟨⟨xs, exa⟩, ⟨ys, eyb⟩⟩, hem⟩ := hs
      have hu0 : X.A.units < cLine := by omega
      obtain ⟨pa, us, rfl, qa, aa⟩ := g.seq ma exa
      obtain ⟨pb, ws, rfl, qb, ab⟩ := g.seq mb eyb
      cases rx
      cases ry
      have fin : ∀ c : Bool, sameKindEmpty a.dat b.dat = c → EP X pins σ Q (.bool (if neg then !c else c)) s := fun c e => by
        rw [e] at hp
        exact ⟨.bl _, H, I, rfl, kB g hp k⟩
      have e0 : emptySeq a.dat = true → us = [] := fun h => by
        rcases qa with ⟨e, _⟩ | ⟨e, _⟩ <;>
        · rw [e] at h
          cases xs with
          | nil => cases aa; rfl
          | cons _ _ => cases h
      have e1 : emptySeq b.dat = true → ws = [] := fun h => by
        rcases qb with ⟨e, _⟩ | ⟨e, _⟩ <;>
        · rw [e] at h
          cases ys with
          | nil => cases ab; rfl
          | cons _ _ => cases h
      have em : us = [] ∨ ws = [] := hem.imp e0 e1
      have la := aa.length
      have lb := ab.length
      -- the answer's relation
      have done : ∀ c : Bool, (sameKindEmpty a.dat b.dat = c) → (neg = false → SeqAt.RcAt X.A s (.ref pa) (.ref pb) c) → (neg = true → SeqAt.RcNeAt X.A s (.ref pa) (.ref pb) (!c)) → wpAny (model X.prog X.w) X.A (compareOp (if neg then .NotEq else .Eq) (.ref pa) (.ref pb)) (EP X pins σ Q) X.xe s := fun c e h1 h2 => by
        have f := fin c e
        cases neg with
        | false => exact h1 rfl X.prog X.w X.xe _ f
        | true => exact h2 rfl X.prog X.w X.xe _ f
      rcases qa with ⟨ea, qa⟩ | ⟨ea, qa⟩ <;> rcases qb with ⟨eb, qb⟩ | ⟨eb, qb⟩
      · obtain ⟨ia, ra, pla, za⟩ := I.list qa.sq
        obtain ⟨ib, rb, plb, zb⟩ := I.list qb.sq
        have l1 := ra.length
        have l2 := rb.length
        by_cases hsz : us.length = ws.length
        · have u0 : us = [] := by
            rcases em with h | h
            · exact h
            · rw [h] at hsz
              exact List.eq_nil_of_length_eq_zero hsz
          subst u0
          have w0 : ws = [] := List.eq_nil_of_length_eq_zero hsz.symm
          subst w0
          have x0 : xs = [] := List.eq_nil_of_length_eq_zero la.symm
          have y0 : ys = [] := List.eq_nil_of_length_eq_zero lb.symm
          subst x0 y0
          cases ra
          cases rb
          refine done true (by rw [ea, eb]; rfl) (fun _ => ?_) fun _ => ?_
          · exact SeqAt.RcAt.lists (e := fun _ => true) pla.isList plb.isList rfl hu0 fun j h1 _ => absurd h1 (Nat.not_lt_zero _)
          · exact SeqAt.RcNeAt.lists (e := fun _ => true) pla.isList plb.isList rfl hu0 fun j h1 _ => absurd h1 (Nat.not_lt_zero _)
        · have hz : (ia.toArray.size != ib.toArray.size) = true := by
            rw [List.size_toArray, List.size_toArray, ← l1, ← l2]
            simpa using hsz
          refine done false ?_ (fun _ => SeqAt.RcAt.lists_lengths pla.isList plb.isList hz hu0) fun _ => SeqAt.RcNeAt.lists_lengths pla.isList plb.isList hz hu0
          rw [ea, eb]
          cases xs with
          | nil =>
            cases ys with
            | nil => exact absurd (la.trans lb.symm) hsz
            | cons _ _ => rfl
          | cons _ _ => cases ys <;> rfl
      · obtain ⟨ia, ra, pla, za⟩ := I.list qa.sq
        obtain ⟨ib, rb, plb, zb⟩ := I.tuple qb
        refine done false ?_ (fun _ => SeqAt.RcAt.list_tuple pla.isList (show s.heap.IsTuple pb ib.toArray from plb) hu0) fun _ => SeqAt.RcNeAt.list_tuple pla.isList (show s.heap.IsTuple pb ib.toArray from plb) hu0
        rw [ea, eb]
        cases xs <;> cases ys <;> rfl
      · obtain ⟨ia, ra, pla, za⟩ := I.tuple qa
        obtain ⟨ib, rb, plb, zb⟩ := I.list qb.sq
        refine done false ?_ (fun _ => SeqAt.RcAt.tuple_list (show s.heap.IsTuple pa ia.toArray from pla) plb.isList hu0) fun _ => SeqAt.RcNeAt.tuple_list (show s.heap.IsTuple pa ia.toArray from pla) plb.isList hu0
        rw [ea, eb]
        cases xs <;> cases ys <;> rfl
      · obtain ⟨ia, ra, pla, za⟩ := I.tuple qa
        obtain ⟨ib, rb, plb, zb⟩ := I.tuple qb
        have l1 := ra.length
        have l2 := rb.length
        have em2 : min ia.toArray.size ib.toArray.size = 0 := by
          rw [List.size_toArray, List.size_toArray, ← l1, ← l2]
          rcases em with h | h <;> rw [h] <;> simp
        have no : ∀ j (h1 : j < ia.toArray.size) (h2 : j < ib.toArray.size), SeqAt.EqAt X.A.in1 s ia.toArray[j] ib.toArray[j] ((fun _ => true) j) := fun j h1 h2 => absurd em2 (by omega)
        have r1 := SeqAt.RcAt.tuples (A := X.A) (e := fun _ => true) (show s.heap.IsTuple pa ia.toArray from pla) (show s.heap.IsTuple pb ib.toArray from plb) hu0 no
        have r2 := SeqAt.RcNeAt.tuples (A := X.A) (e := fun _ => true) (show s.heap.IsTuple pa ia.toArray from pla) (show s.heap.IsTuple pb ib.toArray from plb) hu0 no
        rw [em2] at r1 r2
        have ec : (List.all (List.range 0) (fun _ => true) && ia.toArray.size == ib.toArray.size) = sameKindEmpty a.dat b.dat := by
          rw [ea, eb, List.size_toArray, List.size_toArray, ← l1, ← l2, la, lb]
          have em3 : xs = [] ∨ ys = [] := em.imp (fun h => by subst h; cases aa; rfl) fun h => by subst h; cases ab; rfl
          cases xs with
          | nil => cases ys <;> rfl
          | cons _ _ =>
            cases ys with
            | nil => rfl
            | cons _ _ => rcases em3 with h | h <;> cases h
        rw [ec] at r1 r2
        exact done _ rfl (fun _ => r1) fun _ => r2
    · cases hp
theorem or_eq (hu : X.A.units + 64 < cLine) : OpR X (compareOp .Eq) fun x y => rP X.K .eq [x, y] := or_eqne hu false fun _ _ => rfl
theorem or_ne (hu : X.A.units + 64 < cLine) : OpR X (compareOp .NotEq) fun x y => rP X.K .ne [x, y] := or_eqne hu true fun _ _ => rfl

theorem in1_units (A : Around) : A.in1.units = A.units + 1 := rfl
/-- x in ys, by == of data -/
theorem or_innot (hu : X.A.units + 65 < cLine) (neg : Bool) {p : Prim} (he : ∀ a b, prim p [a, b] = match seqOf b.dat with
      | some ys => if SeqAt.shaped a.dat && ys.all SeqAt.shaped then vb (if neg then !ys.any (fun y => PyData.eqv y a.dat) else ys.any fun y => PyData.eqv y a.dat) else none
      | none => none) :
    OpR X (compareOp (if neg then .NotIn else .In)) fun x y => rP X.K p [x, y] := by
  intro pins s σ H x y vx vy Q I rx ry h
  obtain ⟨a, b, Φ, qs, v, g, ma, mb, hp, k⟩ := h.two
  rw [he] at hp
  split at hp
  · rename_i ys ey
    split at hp
    · rename_i hs
      rw [Bool.and_eq_true] at hs
      have da := g.dp ma (SeqAt.canLay_of_shaped hs.1)
      obtain ⟨as, ra⟩ := Dp.reads I _ _ _ da rx
      obtain ⟨pb, ws, rfl, qb, ab⟩ := g.seq mb ey
      cases ry
      have fin : EP X pins σ Q (.bool (if neg then !ys.any (fun y => PyData.eqv y a.dat) else ys.any fun y => PyData.eqv y a.dat)) s := ⟨.bl _, H, I, rfl, kB g hp k⟩
      -- each item compared
      have each : ∀ (ts : List D) (vs : List V) (its : List Value), AtAll X.K (fz Φ H qs) vs ts → Vals vs its → ts.all SeqAt.shaped = true → ∃ e : Value → Bool, (∀ u ∈ its, SeqAt.EqAt X.A.in1 s u vx (e u)) ∧ its.any e = ts.any fun y => PyData.eqv y a.dat := by
        classical
        intro ts vs its h1 h2 h3
        -- the value's answer does not hang on which item it is
        have one : ∀ (t : D) (w : V) (u : Value), At X.K (fz Φ H qs) w t → RelV w u → SeqAt.shaped t = true → SeqAt.EqAt X.A.in1 s u vx (PyData.eqv t a.dat) := fun t w u q1 q2 q3 => by
          obtain ⟨bs, rb⟩ := Dp.reads I _ _ _ (q1.dp less_self (SeqAt.canLay_of_shaped q3)) q2
          refine SeqAt.eqAt_reads t a.dat X.A.in1 s u vx bs as rb ra (SeqAt.canLay_of_shaped q3) (SeqAt.canLay_of_shaped hs.1) (SeqAt.room_of_shaped q3 ?_)
          rw [in1_units]; omega
        have uniq : ∀ (ts : List D) (vs : List V) (its : List Value), AtAll X.K (fz Φ H qs) vs ts → Vals vs its → ts.all SeqAt.shaped = true → ∀ u ∈ its, ∃ t ∈ ts, ∃ w, At X.K (fz Φ H qs) w t ∧ RelV w u ∧ SeqAt.shaped t = true := by
          intro ts vs its h1
          induction its generalizing ts vs with
          | nil => intro _ _ u hu; cases hu
          | cons u0 its ih =>
            intro h2 h3 u hu
            cases h2 with
            | cons r0 r1 =>
              cases h1 with
              | cons q0 q1 =>
                rw [List.all_cons, Bool.and_eq_true] at h3
                rcases List.mem_cons.mp hu with rfl | hu
                · exact ⟨_, List.mem_cons_self, _, q0, r0, h3.1⟩
                · obtain ⟨t, ht, z⟩ := ih _ _ q1 r1 h3.2 u hu
                  exact ⟨t, List.mem_cons_of_mem _ ht, z⟩
        refine ⟨fun u => if h : ∃ t w, At X.K (fz Φ H qs) w t ∧ RelV w u ∧ SeqAt.shaped t = true then PyData.eqv h.choose a.dat else false, fun u hu => ?_, ?_⟩
        · obtain ⟨t, _, w, q1, q2, q3⟩ := uniq ts vs its h1 h2 h3 u hu
          have ex : ∃ t w, At X.K (fz Φ H qs) w t ∧ RelV w u ∧ SeqAt.shaped t = true := ⟨t, w, q1, q2, q3⟩
          simp only [dif_pos ex]
          obtain ⟨w', z1, z2, z3⟩ := ex.choose_spec
          exact one _ _ _ z1 z2 z3
        · induction its generalizing ts vs with
          | nil => cases h2; cases h1; rfl
          | cons u0 its ih =>
            cases h2 with
            | cons r0 r1 =>
              cases h1 with
              | cons q0 q1 =>
                rw [List.all_cons, Bool.and_eq_true] at h3
                rw [List.any_cons, List.any_cons, ih _ _ q1 r1 h3.2]
                congr 1
                have ex : ∃ t w, At X.K (fz Φ H qs) w t ∧ RelV w u0 ∧ SeqAt.shaped t = true := ⟨_, _, q0, r0, h3.1⟩
                simp only [dif_pos ex]
                obtain ⟨w', z1, z2, z3⟩ := ex.choose_spec
                -- both trees are read off one value
                have e1 := one _ _ _ z1 z2 z3
                have e2 := one _ _ _ q0 r0 h3.1
                obtain ⟨b1, rb1⟩ := Dp.reads I _ _ _ (z1.dp less_self (SeqAt.canLay_of_shaped z3)) z2
                obtain ⟨b2, rb2⟩ := Dp.reads I _ _ _ (q0.dp less_self (SeqAt.canLay_of_shaped h3.1)) r0
                have := (PyProof.Rows.reads_det (fun _ _ e _ => e) rb1 rb2).1
                rw [this]
      rcases qb with ⟨_, qb⟩ | ⟨_, qb⟩
      · obtain ⟨ib, rb, plb, zb⟩ := I.list qb.sq
        obtain ⟨e, h1, h2⟩ := each ys ws ib ab rb hs.2
        have e3 : ib.toArray.any e = ys.any fun y => PyData.eqv y a.dat := by rw [← h2]; simp
        cases neg with
        | false => exact SeqAt.in_listAt e plb.isList (fun u hu => h1 u (by simpa using hu)) (by rw [e3]; exact fin)
        | true => exact SeqAt.notIn_listAt e plb.isList (fun u hu => h1 u (by simpa using hu)) (by rw [e3]; exact fin)
      · obtain ⟨ib, rb, plb, zb⟩ := I.tuple qb
        obtain ⟨e, h1, h2⟩ := each ys ws ib ab rb hs.2
        have e3 : ib.toArray.any e = ys.any fun y => PyData.eqv y a.dat := by rw [← h2]; simp
        cases neg with
        | false => exact SeqAt.in_tupleAt e (show s.heap.IsTuple pb ib.toArray from plb) (fun u hu => h1 u (by simpa using hu)) (by rw [e3]; exact fin)
        | true => exact SeqAt.notIn_tupleAt e (show s.heap.IsTuple pb ib.toArray from plb) (fun u hu => h1 u (by simpa using hu)) (by rw [e3]; exact fin)
    · cases hp
  · cases hp
theorem or_in (hu : X.A.units + 65 < cLine) : OpR X (compareOp .In) fun x y => rP X.K .isin [x, y] := or_innot hu false fun _ _ => rfl
theorem or_notin (hu : X.A.units + 65 < cLine) : OpR X (compareOp .NotIn) fun x y => rP X.K .notin [x, y] := or_innot hu true fun _ _ => rfl

/-! ### items and slices -/
theorem ixN_lt {n : Nat} {i : Int} {j : Nat} (h : ixN n i = some j) : j < n := (ixN_seq h).2.1
theorem atI_rel {F : Hp} {vs : List V} {ts : List D} (h : AtAll K F vs ts) {i : Int} {t : D} (e : atI ts i = some t) : ∃ v, atI vs i = some v ∧ At K F v t := by
  unfold atI at e ⊢
  rw [h.length]
  cases q : ixN ts.length i with
  | none => rw [q] at e; cases e
  | some j =>
    rw [q] at e
    exact h.get e
theorem ir_idx : IxR X fun x y => rP X.K .idx [x, y] := by
  intro value slice pins s σ H x y vx vy Q I rx ry h hs
  obtain ⟨a, b, Φ, qs, v, g, ma, mb, hp, k⟩ := h.two
  simp only [prim] at hp
  split at hp
  · rename_i xs i ea eb
    obtain ⟨t, et, ev⟩ := Option.map_eq_some_iff.mp hp
    subst ev
    obtain rfl := g.int mb eb
    obtain ⟨p, us, rfl, q, aa⟩ := g.seq ma ea
    obtain ⟨w, ew, hw⟩ := atI_rel aa et
    have fin : Q w H := k _ _ (g.add hw)
    rcases q with ⟨_, q⟩ | ⟨_, q⟩
    · exact ix_list value slice pins s σ H _ _ vx vy Q I rx ry ⟨p, us, i, w, rfl, rfl, q.sq, ew, fin⟩ hs
    · exact ix_tup value slice pins s σ H _ _ vx vy Q I rx ry ⟨p, us, i, w, rfl, rfl, q, ew, fin⟩ hs
  · cases hp
theorem cut_rel {F : Hp} {vs : List V} {ts : List D} (h : AtAll K F vs ts) (lo hi : Option Int) : AtAll K F (cutV vs lo hi) (cut ts lo hi) := by
  unfold cutV cut
  rw [h.length]
  exact (h.drop _).take _
theorem cut_all {α : Type} {ts : List α} {lo hi : Option Int} (h : HT.sIx ts.length 0 lo = 0 ∧ HT.sIx ts.length ts.length hi = ts.length) : cut ts lo hi = ts := by
  unfold cut
  rw [h.1, h.2]
  simp
/-- a slice with the parts lo, hi -/
def rSl (K : PySem.W.Frag) : V → Option Int → Option Int → Hp → VK → Prop := fun x lo hi H Q =>
  ∃ (a : Val) (Φ : Fm) (qs : List Pr) (v : Val), Good K Φ H qs ∧ (a, x) ∈ qs ∧ sliceOf a.dat lo hi = some v ∧ ∀ y H', Good K Φ H' (qs ++ [(v, y)]) → Q y H'
theorem sr_sl : SlR X (rSl X.K) := by
  intro pins s σ H x v vl vu lo hi sl Q I rx hs pl pu h
  obtain ⟨a, Φ, qs, w, g, ma, hp, k⟩ := h
  unfold sliceOf at hp
  split at hp
  · rename_i xs ea
    cases hp
    obtain ⟨p, us, rfl, q, aa⟩ := g.seqL ma ea
    exact sl_list pins s σ H _ v vl vu lo hi sl Q I rx hs pl pu ⟨p, us, rfl, q.sq, fun t ht => k _ _ (g.newLst ht (cut_rel aa lo hi))⟩
  · rename_i xs ea
    cases hp
    obtain ⟨p, us, rfl, q, aa⟩ := g.seqT ma ea
    refine sl_tupA pins s σ H _ v vl vu lo hi sl Q I rx hs pl pu ⟨p, us, rfl, q, fun hw => ?_, fun _ t ht => k _ _ (g.newTup ht (cut_rel aa lo hi))⟩
    rw [aa.length] at hw
    rw [cut_all hw] at k
    refine k _ _ (g.add ?_)
    cases a with
    | d t =>
      have e : t = .tuple xs := ea
      subst e
      exact g.atD ma
    | own _ => cases ea
  · cases hp
end
end Eng
set_option Elab.async false
set_option linter.all false
set_option maxRecDepth 100000
set_option maxHeartbeats 4000000
/-! Eng5: calls of built-in functions, products, reversed ones. -/
namespace Eng
open PySem PySem.Spec PyProof.Rows L2 PySem.W
section
variable {X : Cx}
/-- the rule of a built-in of one argument -/
abbrev C1 (X : Cx) (f : Value) (p : Prim) : Prop := CallR X f fun ys H Q => rP X.K p ys H Q
theorem rP.len {K : PySem.W.Frag} {p : Prim} {ys : List V} {H : Hp} {Q : VK} (h : rP K p ys H Q) : ∃ xs v, xs.length = ys.length ∧ prim p xs = some v := by
  obtain ⟨xs, Φ, qs, v, g, hl, hm, hp, k⟩ := h
  exact ⟨xs, v, hl, hp⟩
theorem ys1 {K : PySem.W.Frag} {p : Prim} {ys : List V} {H : Hp} {Q : VK} (h : rP K p ys H Q) (ar : ∀ xs v, prim p xs = some v → xs.length = 1) : ∃ y, ys = [y] := by
  obtain ⟨xs, v, hl, hp⟩ := h.len
  have := ar xs v hp
  match ys, hl with
  | [y], _ => exact ⟨y, rfl⟩
  | [], hl => rw [this] at hl; cases hl
  | _ :: _ :: _, hl => rw [this] at hl; simp at hl
theorem ys2 {K : PySem.W.Frag} {p : Prim} {ys : List V} {H : Hp} {Q : VK} (h : rP K p ys H Q) (ar : ∀ xs v, prim p xs = some v → xs.length = 2) : ∃ y z, ys = [y, z] := by
  obtain ⟨xs, v, hl, hp⟩ := h.len
  have := ar xs v hp
  match ys, hl with
  | [y, z], _ => exact ⟨y, z, rfl⟩
  | [], hl => rw [this] at hl; cases hl
  | [_], hl => rw [this] at hl; cases hl
  | _ :: _ :: _ :: _, hl => rw [this] at hl; simp at hl
theorem cr_len : C1 X (.builtin "len") .len := by
  intro pins s σ H ys us Q I r h
  obtain ⟨y, rfl⟩ := ys1 h (fun xs v h => match xs, h with | [_], _ => rfl | [], h => nomatch h | _ :: _ :: _, h => nomatch h)
  obtain ⟨a, Φ, qs, v, g, ma, hp, k⟩ := h.one
  simp only [prim] at hp
  split at hp
  · rename_i xs ea
    obtain ⟨p, vs, rfl, q, aa⟩ := g.seq ma ea
    have fin : Q (.int (vs.length : Nat)) H := by rw [aa.length]; exact kI g hp k
    rcases q with ⟨_, q⟩ | ⟨_, q⟩
    · exact call_len pins s σ H _ us Q I r ⟨_, vs.length, rfl, .inl ⟨vs, q.sq, rfl⟩, fin⟩
    · exact call_len pins s σ H _ us Q I r ⟨_, vs.length, rfl, .inr ⟨vs, q, rfl⟩, fin⟩
  · cases hp
theorem cr_abs : C1 X (.builtin "abs") .abs := by
  intro pins s σ H ys us Q I r h
  obtain ⟨y, rfl⟩ := ys1 h (fun xs v h => match xs, h with | [_], _ => rfl | [], h => nomatch h | _ :: _ :: _, h => nomatch h)
  obtain ⟨a, Φ, qs, v, g, ma, hp, k⟩ := h.one
  simp only [prim] at hp
  split at hp
  · rename_i i ea
    obtain rfl := g.int ma ea
    exact call_abs pins s σ H _ us Q I r ⟨i, rfl, kI g hp k⟩
  · cases hp
theorem cr_int : C1 X (.type "int") .int := by
  intro pins s σ H ys us Q I r h
  obtain ⟨y, rfl⟩ := ys1 h (fun xs v h => match xs, h with | [_], _ => rfl | [], h => nomatch h | _ :: _ :: _, h => nomatch h)
  obtain ⟨a, Φ, qs, v, g, ma, hp, k⟩ := h.one
  simp only [prim] at hp
  split at hp
  · rename_i i ea
    obtain rfl := g.int ma ea
    exact call_int1 pins s σ H _ us Q I r (.inl ⟨i, rfl, kI g hp k⟩)
  · rename_i b ea
    obtain rfl := g.bool ma ea
    exact call_int1 pins s σ H _ us Q I r (.inr ⟨b, rfl, kI g hp k⟩)
  · cases hp
theorem Good.again {K : PySem.W.Frag} {Φ : Fm} {H : Hp} {qs : List Pr} (g : Good K Φ H qs) {x : Val} {y : V} {ts : List D} (m : (x, y) ∈ qs) (e : x.dat = .tuple ts) : Good K Φ H (qs ++ [(.d (.tuple ts), y)]) := by
  cases x with
  | d t =>
    have e : t = .tuple ts := e
    subst e
    exact g.add (g.atD m)
  | own _ => cases e
theorem cr_tuple : C1 X (.type "tuple") .tuple := by
  intro pins s σ H ys us Q I r h
  obtain ⟨y, rfl⟩ := ys1 h (fun xs v h => match xs, h with | [_], _ => rfl | [], h => nomatch h | _ :: _ :: _, h => nomatch h)
  obtain ⟨a, Φ, qs, v, g, ma, hp, k⟩ := h.one
  obtain ⟨ts, et, rfl⟩ := Option.map_eq_some_iff.mp hp
  obtain ⟨p, vs, rfl, q, aa⟩ := g.seq ma et
  rcases q with ⟨_, q⟩ | ⟨e, q⟩
  · exact call_tuple_of pins s σ H _ us Q I r ⟨p, vs, rfl, .inl ⟨q.sq, fun l hl => k _ _ (g.newTup hl aa)⟩⟩
  · exact call_tuple_of pins s σ H _ us Q I r ⟨p, vs, rfl, .inr ⟨q, k _ _ (g.again ma e)⟩⟩
theorem cr_list : C1 X (.type "list") .list := by
  intro pins s σ H ys us Q I r h
  obtain ⟨y, rfl⟩ := ys1 h (fun xs v h => match xs, h with | [_], _ => rfl | [], h => nomatch h | _ :: _ :: _, h => nomatch h)
  obtain ⟨a, Φ, qs, v, g, ma, hp, k⟩ := h.one
  obtain ⟨ts, et, rfl⟩ := Option.map_eq_some_iff.mp hp
  obtain ⟨p, vs, rfl, q, aa⟩ := g.seq ma et
  refine call_list_of pins s σ H _ us Q I r ⟨p, vs, rfl, ?_, fun l hl => k _ _ (g.newLst hl aa)⟩
  rcases q with ⟨_, q⟩ | ⟨_, q⟩
  · exact .inl q.sq
  · exact .inr q
theorem bools_at {K : PySem.W.Frag} {F : Hp} : ∀ {ts : List D} {bs : List Bool} {vs : List V}, bools ts = some bs → AtAll K F vs ts → vs = bs.map V.bl
  | [], bs, vs, h, r => by cases h; cases r; rfl
  | .bool b :: ts, bs, vs, h, r => by
    obtain ⟨cs, hc, rfl⟩ := Option.map_eq_some_iff.mp h
    cases r with
    | cons q r =>
      cases q
      rw [bools_at hc r]; rfl
  | .none :: _, _, _, h, _ => by cases h
  | .int _ :: _, _, _, h, _ => by cases h
  | .str _ :: _, _, _, h, _ => by cases h
  | .list _ :: _, _, _, h, _ => by cases h
  | .tuple _ :: _, _, _, h, _ => by cases h
  | .dict _ :: _, _, _, h, _ => by cases h
theorem ints_at {K : PySem.W.Frag} {F : Hp} : ∀ {ts : List D} {ns : List Int} {vs : List V}, intsOf ts = some ns → AtAll K F vs ts → vs = ns.map V.int ∧ ts = ns.map PyData.int
  | [], bs, vs, h, r => by cases h; cases r; exact ⟨rfl, rfl⟩
  | .int b :: ts, bs, vs, h, r => by
    obtain ⟨cs, hc, rfl⟩ := Option.map_eq_some_iff.mp h
    cases r with
    | cons q r =>
      cases q
      obtain ⟨e1, e2⟩ := ints_at hc r
      exact ⟨by rw [e1]; rfl, by rw [e2]; rfl⟩
  | .none :: _, _, _, h, _ => by cases h
  | .bool _ :: _, _, _, h, _ => by cases h
  | .str _ :: _, _, _, h, _ => by cases h
  | .list _ :: _, _, _, h, _ => by cases h
  | .tuple _ :: _, _, _, h, _ => by cases h
  | .dict _ :: _, _, _, h, _ => by cases h
theorem cr_allP (hc : X.calm = true) : C1 X (.builtin "all") .all := by
  intro pins s σ H ys us Q I r h
  obtain ⟨y, rfl⟩ := ys1 h (fun xs v h => match xs, h with | [_], _ => rfl | [], h => nomatch h | _ :: _ :: _, h => nomatch h)
  obtain ⟨a, Φ, qs, v, g, ma, hp, k⟩ := h.one
  simp only [prim] at hp
  split at hp
  · rename_i xs ea
    obtain ⟨bs, hb, hv⟩ := Option.bind_eq_some_iff.mp hp
    obtain ⟨p, vs, rfl, q, aa⟩ := g.seqL ma ea
    obtain rfl := bools_at hb aa
    exact cr_all hc pins s σ H _ us Q I r ⟨p, bs, rfl, q.sq, kB g hv k⟩
  · cases hp
theorem cr_anyP (hc : X.calm = true) : C1 X (.builtin "any") .any := by
  intro pins s σ H ys us Q I r h
  obtain ⟨y, rfl⟩ := ys1 h (fun xs v h => match xs, h with | [_], _ => rfl | [], h => nomatch h | _ :: _ :: _, h => nomatch h)
  obtain ⟨a, Φ, qs, v, g, ma, hp, k⟩ := h.one
  simp only [prim] at hp
  split at hp
  · rename_i xs ea
    obtain ⟨bs, hb, hv⟩ := Option.bind_eq_some_iff.mp hp
    obtain ⟨p, vs, rfl, q, aa⟩ := g.seqL ma ea
    obtain rfl := bools_at hb aa
    exact cr_any hc pins s σ H _ us Q I r ⟨p, bs, rfl, q.sq, kB g hv k⟩
  · cases hp
theorem cr_sumP (hc : X.calm = true) : C1 X (.builtin "sum") .sum := by
  intro pins s σ H ys us Q I r h
  obtain ⟨y, rfl⟩ := ys1 h (fun xs v h => match xs, h with | [_], _ => rfl | [], h => nomatch h | _ :: _ :: _, h => nomatch h)
  obtain ⟨a, Φ, qs, v, g, ma, hp, k⟩ := h.one
  simp only [prim] at hp
  split at hp
  · rename_i xs ea
    obtain ⟨bs, hb, hv⟩ := Option.bind_eq_some_iff.mp hp
    obtain ⟨p, vs, rfl, q, aa⟩ := g.seqL ma ea
    obtain rfl := (ints_at hb aa).1
    exact cr_sum hc pins s σ H _ us Q I r ⟨p, bs, rfl, q.sq, kI g hv k⟩
  · cases hp
theorem cr_max2 (hc : X.calm = true) : C1 X (.builtin "max") .max2 := by
  intro pins s σ H ys us Q I r h
  obtain ⟨y, z, rfl⟩ := ys2 h (fun xs v h => match xs, h with | [_, _], _ => rfl | [], h => nomatch h | [_], h => nomatch h | _ :: _ :: _ :: _, h => nomatch h)
  obtain ⟨a, b, Φ, qs, v, g, ma, mb, hp, k⟩ := h.two
  simp only [prim] at hp
  split at hp
  · rename_i i j ea eb
    obtain rfl := g.int ma ea
    obtain rfl := g.int mb eb
    exact call_max2 hc pins s σ H _ us Q I r ⟨i, j, rfl, kI g hp k⟩
  · cases hp
theorem cr_min2 (hc : X.calm = true) : C1 X (.builtin "min") .min2 := by
  intro pins s σ H ys us Q I r h
  obtain ⟨y, z, rfl⟩ := ys2 h (fun xs v h => match xs, h with | [_, _], _ => rfl | [], h => nomatch h | [_], h => nomatch h | _ :: _ :: _ :: _, h => nomatch h)
  obtain ⟨a, b, Φ, qs, v, g, ma, mb, hp, k⟩ := h.two
  simp only [prim] at hp
  split at hp
  · rename_i i j ea eb
    obtain rfl := g.int ma ea
    obtain rfl := g.int mb eb
    exact call_min2 hc pins s σ H _ us Q I r ⟨i, j, rfl, kI g hp k⟩
  · cases hp
theorem cr_divmod : C1 X (.builtin "divmod") .divmod := by
  intro pins s σ H ys us Q I r h
  obtain ⟨y, z, rfl⟩ := ys2 h (fun xs v h => match xs, h with | [_, _], _ => rfl | [], h => nomatch h | [_], h => nomatch h | _ :: _ :: _ :: _, h => nomatch h)
  obtain ⟨a, b, Φ, qs, v, g, ma, mb, hp, k⟩ := h.two
  simp only [prim] at hp
  split at hp
  · rename_i i j ea eb
    split at hp
    · rename_i hc
      cases hp
      obtain rfl := g.int ma ea
      obtain rfl := g.int mb eb
      exact call_divmod pins s σ H _ us Q I r ⟨i, j, rfl, hc, fun p hpn => k _ _ (g.newTup hpn (.cons (.int _) (.cons (.int _) .nil)))⟩
    · cases hp
  · cases hp
theorem cr_gcdP : C1 X (.builtin "math.gcd") .gcd := by
  intro pins s σ H ys us Q I r h
  obtain ⟨y, z, rfl⟩ := ys2 h (fun xs v h => match xs, h with | [_, _], _ => rfl | [], h => nomatch h | [_], h => nomatch h | _ :: _ :: _ :: _, h => nomatch h)
  obtain ⟨a, b, Φ, qs, v, g, ma, mb, hp, k⟩ := h.two
  simp only [prim] at hp
  split at hp
  · rename_i i j ea eb
    obtain rfl := g.int ma ea
    obtain rfl := g.int mb eb
    exact cr_gcd pins s σ H _ us Q I r ⟨i, j, rfl, kI g hp k⟩
  · cases hp
/-! ### the greatest, the least -/
theorem alikeInts (ns : List Int) : AlikeAll (ns.map PyData.int) := by
  refine ⟨fun x hx y hy => ?_, fun x hx => ?_⟩
  · obtain ⟨i, _, rfl⟩ := List.mem_map.mp hx
    obtain ⟨j, _, rfl⟩ := List.mem_map.mp hy
    rfl
  · obtain ⟨i, _, rfl⟩ := List.mem_map.mp hx
    intro h; cases h
theorem maxD_i (n : Int) : ∀ ns : List Int, maxD (.int n) (ns.map .int) = .int (ns.foldl max n) := by
  intro ns
  unfold maxD
  induction ns generalizing n with
  | nil => rfl
  | cons m ns ih =>
    rw [List.map_cons, List.foldl_cons, List.foldl_cons, dataLt_int]
    have e : (if decide (n < m) = true then PyData.int m else .int n) = .int (max n m) := by
      by_cases h : n < m
      · rw [if_pos (by simpa using h), Int.max_eq_right (by omega)]
      · rw [if_neg (by simpa using h), Int.max_eq_left (by omega)]
    rw [e]
    exact ih _
theorem minD_i (n : Int) (ns : List Int) : minD (.int n) (ns.map .int) = .int (ns.foldl min n) := minD_ints n ns
theorem depthInts (ns : List Int) : PyData.depthAll (ns.map PyData.int) = 0 := by
  induction ns with
  | nil => rfl
  | cons n r ih => rw [List.map_cons, PyData.depthAll, ih]; rfl
theorem readsInts {h : Heap} : ∀ {ns : List Int} {us : List Value}, Vals (ns.map V.int) us → ReadsAll h us (ns.map PyData.int) []
  | [], us, r => by cases r; exact .nil
  | n :: ns, us, r => by
    rw [List.map_cons] at r
    cases r with
    | cons a b =>
      obtain ⟨t, rfl⟩ := a
      exact ReadsAll.cons (as := []) (bs := []) (.int n t) (readsInts b)
theorem relInt {h : Heap} {v : Value} {i : Int} {as : List Addr} (r : Reads h v (.int i) as) : RelV (.int i) v := by
  cases r with
  | int _ t => exact ⟨t, rfl⟩
theorem cr_maxL (hc : X.calm = true) (hu : X.A.units + 64 < cLine) : C1 X (.builtin "max") .maxL := by
  intro pins s σ H ys us Q I r h
  obtain ⟨y, rfl⟩ := ys1 h (fun xs v h => match xs, h with | [_], _ => rfl | [], h => nomatch h | _ :: _ :: _, h => nomatch h)
  obtain ⟨a, Φ, qs, v, g, ma, hp, k⟩ := h.one
  simp only [prim] at hp
  split at hp
  · rename_i xs ea
    obtain ⟨ns, hn, hv⟩ := Option.bind_eq_some_iff.mp hp
    obtain ⟨p, vs, rfl, q, aa⟩ := g.seq ma ea
    obtain ⟨e1, -⟩ := ints_at hn aa
    subst e1
    cases ns with
    | nil => cases hv
    | cons n r' =>
      obtain ⟨u, rfl, ru⟩ := vals1 r
      cases ru
      have hd : X.A.units + 1 + PyData.depthAll (.int n :: r'.map PyData.int) < cLine := by
        have := depthInts (n :: r')
        rw [List.map_cons] at this
        rw [this]; omega
      have fin : ∀ (w : Value) (h' : Heap) (tk : Nat) (bs : List Addr), Reads h' w (maxD (.int n) (r'.map PyData.int)) bs → (∀ b o, s.heap.get? b = some o → h'.get? b = some o) → EP X pins σ Q w { s with heap := h', toks := tk } := fun w h' tk bs rd kp => by
        rw [maxD_i] at rd
        exact ⟨.int _, H, I.kept kp, relInt rd, kI g hv k⟩
      rcases q with ⟨_, q⟩ | ⟨_, q⟩
      · obtain ⟨its, rv, pl, z⟩ := I.list q.sq
        exact max_list_data (I.ok.hd hc) pl.isList (by simpa using readsInts rv) (alikeInts (n :: r')) hd fun i w h' tk bs _ rd kp => fin w h' tk bs rd kp
      · obtain ⟨its, rv, pl, z⟩ := I.tuple q
        exact max_tuple_data (I.ok.hd hc) (show s.heap.IsTuple p its.toArray from pl) (by simpa using readsInts rv) (alikeInts (n :: r')) hd fun i w h' tk bs _ rd kp => fin w h' tk bs rd kp
  · cases hp
theorem cr_minL (hc : X.calm = true) (hu : X.A.units + 64 < cLine) : C1 X (.builtin "min") .minL := by
  intro pins s σ H ys us Q I r h
  obtain ⟨y, rfl⟩ := ys1 h (fun xs v h => match xs, h with | [_], _ => rfl | [], h => nomatch h | _ :: _ :: _, h => nomatch h)
  obtain ⟨a, Φ, qs, v, g, ma, hp, k⟩ := h.one
  simp only [prim] at hp
  split at hp
  · rename_i xs ea
    obtain ⟨ns, hn, hv⟩ := Option.bind_eq_some_iff.mp hp
    obtain ⟨p, vs, rfl, q, aa⟩ := g.seq ma ea
    obtain ⟨e1, -⟩ := ints_at hn aa
    subst e1
    cases ns with
    | nil => cases hv
    | cons n r' =>
      obtain ⟨u, rfl, ru⟩ := vals1 r
      cases ru
      have hd : X.A.units + 1 + PyData.depthAll (.int n :: r'.map PyData.int) < cLine := by
        have := depthInts (n :: r')
        rw [List.map_cons] at this
        rw [this]; omega
      have fin : ∀ (w : Value) (h' : Heap) (tk : Nat) (bs : List Addr), Reads h' w (minD (.int n) (r'.map PyData.int)) bs → (∀ b o, s.heap.get? b = some o → h'.get? b = some o) → EP X pins σ Q w { s with heap := h', toks := tk } := fun w h' tk bs rd kp => by
        rw [minD_i] at rd
        exact ⟨.int _, H, I.kept kp, relInt rd, kI g hv k⟩
      rcases q with ⟨_, q⟩ | ⟨_, q⟩
      · obtain ⟨its, rv, pl, z⟩ := I.list q.sq
        exact min_list_data (I.ok.hd hc) pl.isList (by simpa using readsInts rv) (alikeInts (n :: r')) hd fun i w h' tk bs _ rd kp => fin w h' tk bs rd kp
      · obtain ⟨its, rv, pl, z⟩ := I.tuple q
        exact min_tuple_data (I.ok.hd hc) (show s.heap.IsTuple p its.toArray from pl) (by simpa using readsInts rv) (alikeInts (n :: r')) hd fun i w h' tk bs _ rd kp => fin w h' tk bs rd kp
  · cases hp
/-! ### isinstance -/
theorem isi_ty {K : PySem.W.Frag} {H : Hp} {Φ : Fm} {qs : List Pr} (g : Good K Φ H qs) {a : Val} {y : V} (m : (a, y) ∈ qs) : TyX K H y (.type (tyOf a.dat)) := by
  have lr : ∀ {p : Addr} {vs : List V}, LR K H p vs → TyX K H (.ref p) (.type "list") := fun q => by
    rcases q with (q | ⟨o, q⟩) | ⟨its, n, q, _, _⟩
    · exact .base (.lst q)
    · exact .base (.frz q)
    · exact .kList q rfl
  cases a with
  | own xs =>
    obtain ⟨p, vs, rfl, q, _⟩ := g.seqL m rfl
    exact lr q
  | d t =>
    have q := g.atD m
    cases q with
    | non => exact .base .non
    | bl b => exact .base (.bl b)
    | int i => exact .base (.int i)
    | str x => exact .base (.str x)
    | lst q _ => exact lr (q.mono less_self)
    | tup q _ =>
      rcases q with (q | ⟨o, q⟩) | ⟨o, its, n, q, hc, _⟩
      · exact .base (.tup (less_some q).2)
      · exact .fTuple (less_some q).2
      · exact .kTuple q hc
    | dic q => exact .base (.dK (less_some q).2)
def isNames : List String := ["int", "bool", "str", "list", "tuple", "dict"]
theorem kit_all {K : PySem.W.Frag} {T : String} (h : T ∈ isNames) (t : D) : PySem.W.kitOne K (.type (tyOf t)) (.type T) = some (isA t [T]) := by
  have base : ∀ n ∈ (["NoneType", "bool", "int", "str", "list", "tuple", "dict"] : List String), ∀ T ∈ isNames, kitB n T = some (n == T || (T == "int" && n == "bool") || false) := by decide +kernel
  have m : tyOf t ∈ (["NoneType", "bool", "int", "str", "list", "tuple", "dict"] : List String) := by cases t <;> simp [tyOf]
  exact kit_ty (base _ m T h)
theorem cr_isa {T : String} (h : T ∈ isNames) : CallR X (.builtin "isinstance") fun ys H Q => ∃ y, ys = [y, .ty T] ∧ rP X.K (.isa [T]) [y] H Q := by
  intro pins s σ H ys us Q I r hh
  obtain ⟨y, rfl, hh⟩ := hh
  obtain ⟨a, Φ, qs, v, g, ma, hp, k⟩ := hh.one
  exact call_isi pins s σ H _ us Q I r ⟨y, .ty T, _, _, _, rfl, .ty T, isi_ty g ma, kit_all h a.dat, kB g hp k⟩
/-! ### repr -/
theorem cr_repr (hg : X.A.guards = some []) (hu : X.A.units + 66 < cLine) : C1 X (.builtin "repr") .repr := by
  intro pins s σ H ys us Q I r h
  obtain ⟨y, rfl⟩ := ys1 h (fun xs v h => match xs, h with | [_], _ => rfl | [], h => nomatch h | _ :: _ :: _, h => nomatch h)
  obtain ⟨a, Φ, qs, v, g, ma, hp, k⟩ := h.one
  simp only [prim] at hp
  split at hp
  · rename_i hs
    cases hp
    simp only [Bool.and_eq_true, decide_eq_true_eq] at hs
    obtain ⟨⟨hsh, hsw⟩, hsz⟩ := hs
    have hsz : a.dat.shown.length ≤ sizeLine := Nat.le_trans hsz szLine
    have cl := SeqAt.canLay_of_shaped hsh
    obtain ⟨u, rfl, ru⟩ := vals1 r
    obtain ⟨as, rd⟩ := Dp.reads I _ _ _ (g.dp ma cl) ru
    have fin : ∀ (h' : Heap) (tk tk' : Nat), (∀ b o, s.heap.get? b = some o → h'.get? b = some o) → EP X pins σ Q (.str a.dat.shown tk) { s with heap := h', toks := tk' } := fun h' tk tk' kp => ⟨.str _, H, I.kept kp, ⟨_, rfl⟩, k _ _ (g.add (.str _))⟩
    generalize hd : a.dat = d at rd hsz hsw hsh cl fin
    have dep := SeqAt.depth_of_shaped hsh
    have big : ∀ p, u = .ref p → wpAny (model X.prog X.w) X.A (call (.builtin "repr") [u]) (EP X pins σ Q) X.xe s := fun p e => by
      subst e
      exact repr_of_reads' rd hsw (PyData.noDict_hsm (PyData.hasDict_of_canLay d cl)) hg (by omega) (fun _ _ e => e) (fun h' u tk kp => fin h' u tk kp) hsz
    cases rd with
    | none => exact PySem.P.repr_of_none (fin s.heap s.toks _ fun _ _ e => e)
    | bool b => exact PySem.P.repr_of_bool (fin s.heap s.toks _ fun _ _ e => e)
    | int i t => exact PySem.P.repr_of_int (by simpa [PyData.showable] using hsw) (fin s.heap s.toks _ fun _ _ e => e)
    | str x t => exact PySem.P.repr_of_str (fin s.heap s.toks _ fun _ _ e => e) hsz
    | list _ _ _ _ => exact big _ rfl
    | tuple _ _ _ _ => exact big _ rfl
    | dict _ _ _ _ _ => exact big _ rfl
  · cases hp
end
end Eng
set_option Elab.async false
set_option linter.all false
set_option maxRecDepth 100000
set_option maxHeartbeats 4000000
/-! Eng6: products, reversed tuples. -/
namespace Eng
open PySem PySem.Spec PyProof.Rows L2 PySem.W PySem.Calls

theorem tmul_same (l : Addr) (items : Array Value) (n : Nat) (dd : Option Addr) (sl : Array (Option Value)) (x : Int) (u : Tok) (c0 : (decide (x < -(2 ^ 63)) || decide (x ≥ 2 ^ 63)) = false) (c1 : (items.isEmpty || x == 1) = true) :
    Meets (Builtin.«tuple.__mul__» ⟨[.ref l, .int x u], []⟩) (fun _ R s =>
      s.heap.get? l = some { cls := .type "tuple", dict := dd, data := .seq items n, slots := sl } ∧ R (.ok (.ret (Value.ref l))) s) :=
  .of_wp fun prog w A R s h => by
    obtain ⟨hp, g, d, tk, os⟩ := s
    obtain ⟨hl, h⟩ := h
    have f1 := AutoSeq1.idx_int
    wp_walk using wpAny_loadPart' hl
    refine wpAny_ite_false (decide_eq_false (by rw [c0]; exact Bool.false_ne_true)) ?_
    wp_walk using wpAny_loadPart' hl
    exact ⟨_, rfl, h⟩
theorem tmul_none (l : Addr) (items : Array Value) (n : Nat) (dd : Option Addr) (sl : Array (Option Value)) (x : Int) (u : Tok) (c0 : (decide (x < -(2 ^ 63)) || decide (x ≥ 2 ^ 63)) = false) (c1 : (items.isEmpty || x == 1) = false) (c2 : (decide (x ≤ 0) || items.isEmpty) = true) :
    Meets (Builtin.«tuple.__mul__» ⟨[.ref l, .int x u], []⟩) (fun _ R s =>
      s.heap.get? l = some { cls := .type "tuple", dict := dd, data := .seq items n, slots := sl } ∧
      R (.ok (.ret (Value.ref s.heap.objs.size))) { s with heap := s.heap.push { cls := Value.type "tuple", data := Data.seq #[] } }) :=
  .of_wp fun prog w A R s h => by
    obtain ⟨hp, g, d, tk, os⟩ := s
    obtain ⟨hl, h⟩ := h
    have f1 := AutoSeq1.idx_int
    wp_walk using wpAny_loadPart' hl
    refine wpAny_ite_false (decide_eq_false (by rw [c0]; exact Bool.false_ne_true)) ?_
    wp_walk using wpAny_loadPart' hl
    exact ⟨_, rfl, h⟩
section
variable {X : Cx}
/-- the road of tuple * int, given what the method does -/
theorem tmul_road {s : Shared} {l : Addr} {its : List Value} {k : Int} {t : Tok} {n : Nat} {dd : Option Addr} {sl : Array (Option Value)} {Q : Value → Shared → Prop} {S : Around → (Result → Shared → Prop) → Shared → Prop}
    (ho : s.heap.get? l = some { cls := .type "tuple", dict := dd, data := .seq its.toArray n, slots := sl })
    (m : Meets (Builtin.«tuple.__mul__» ⟨[.ref l, .int k t], []⟩) S) (hS : S X.A (wants Q X.xe) s) :
    wpAny (model X.prog X.w) X.A (binaryOp .Mult (.ref l) (.int k t)) Q X.xe s :=
  wpAny_binaryOp_repeat_ref (T := "tuple") (U := "int") (by decide) ⟨_, ho, rfl⟩ (fun s' => typeIs_int s' k t) noFill_tuple_mul F.fills_int_mul F.slot_int_rmul repeat_tuple
    F.slot_int_index.lookup
    (call_meets F.slot_int_rmul (typeIs_int s k t) F.entry_int_rmul (F.args_int_rmul_2 _ _)
      (int_rmul_tuple k t l its.toArray n dd sl) ⟨ho, rfl, ⟨_, ho, rfl⟩, call_meets F.slot_tuple_mul ⟨_, ho, rfl⟩ F.entry_tuple_mul (F.args_tuple_mul_2 _ _) m hS⟩)
theorem or_mul : OpR X (binaryOp .Mult) fun x y => rP X.K .mul [x, y] := by
  intro pins s σ H x y vx vy Q I rx ry h
  obtain ⟨a, b, Φ, qs, v, g, ma, mb, hp, k⟩ := h.two
  simp only [prim] at hp
  split at hp
  · rename_i i j ea eb
    split at hp
    · rename_i hc
      have hc2 := of_decide_eq_true hc
      obtain rfl := g.int ma ea
      obtain rfl := g.int mb eb
      exact op_mulW pins s σ H _ _ vx vy Q I rx ry ⟨i, j, rfl, rfl, hc2, kI g hp k⟩
    · cases hp
  · rename_i xs n ea eb
    split at hp
    · rename_i hc
      cases hp
      obtain rfl := g.int mb eb
      obtain ⟨p, vs, rfl, q, aa⟩ := g.seqT ma ea
      have hl := aa.length
      by_cases c1 : vs = [] ∨ n = 1
      · -- the tuple itself
        have e : (List.replicate n.toNat xs).flatten = xs := by
          rcases c1 with c | c
          · subst c
            have : xs = [] := List.eq_nil_of_length_eq_zero hl.symm
            subst this
            simp
          · subst c
            simp
        rw [e] at k
        cases rx
        obtain ⟨t, rfl⟩ := ry
        obtain ⟨its, rv, ⟨⟨cls, dd, data, sl⟩, ho, hcl, m, hd⟩, hz⟩ := I.tuple q
        simp only at hcl hd
        subst hcl hd
        refine tmul_road ho (tmul_same p its.toArray m dd sl n t ?_ ?_) ⟨ho, ⟨.ref p, H, I, rfl, k _ _ (g.again ma ea)⟩⟩
        · rw [decide_eq_false (by omega), decide_eq_false (by omega)]; rfl
        · rcases c1 with c | c
          · subst c
            cases rv
            rfl
          · subst c; simp
      · have n1 : vs ≠ [] := fun z => c1 (.inl z)
        have n2 : n ≠ 1 := fun z => c1 (.inr z)
        by_cases c2 : n ≤ 0
        · have e : (List.replicate n.toNat xs).flatten = [] := by
            have : n.toNat = 0 := by omega
            rw [this]; rfl
          rw [e] at k
          cases rx
          obtain ⟨t, rfl⟩ := ry
          obtain ⟨its, rv, ⟨⟨cls, dd, data, sl⟩, ho, hcl, m, hd⟩, hz⟩ := I.tuple q
          simp only at hcl hd
          subst hcl hd
          have ne : its.toArray.isEmpty = false := by
            cases its with
            | nil => cases rv; exact absurd rfl n1
            | cons _ _ => rfl
          have hf : H s.heap.objs.size = none := I.hok.fresh (Nat.le_refl _)
          refine tmul_road ho (tmul_none p its.toArray m dd sl n t ?_ ?_ ?_) ⟨ho, ⟨.ref s.heap.objs.size, upd H s.heap.objs.size (.tup []), I.laid (t' := s.toks) (fun b u e => Heap.get?_push_of_some _ e) (Nat.le_refl _) ?_, rfl, k _ _ (g.newTup hf .nil)⟩⟩
          · rw [decide_eq_false (by omega), decide_eq_false (by omega)]; rfl
          · rw [ne, Bool.false_or]; exact beq_eq_false_iff_ne.mpr n2
          · rw [decide_eq_true c2]; rfl
          · exact ⟨Nat.zero_le _, [], .nil, IsTup.new _ _⟩
        · exact op_repT pins s σ H _ _ vx vy Q I rx ry ⟨p, n, vs, rfl, rfl, q, n1, by omega, by omega, by omega, fun t ht => k _ _ (g.newTup ht (aa.repl n.toNat))⟩
    · cases hp
  · rename_i xs n ea eb
    split at hp
    · rename_i ys
      split at hp
      · rename_i hc
        cases hp
        obtain rfl := g.int mb eb
        obtain ⟨p, vs, rfl, q, aa⟩ := (g.rv _ ma).ofOwn
        have e : ys = xs := by
          have : PyData.list ys = .list xs := ea
          injection this
        subst e
        have hl := aa.length
        refine op_rep pins s σ H _ _ vx vy Q I rx ry ⟨p, n, vs, rfl, rfl, q, by omega, by omega, ?_, fun t ht => k _ _ (g.newLst ht (aa.repl n.toNat))⟩
        rw [sizeLine_eq]
        have : vs.length * n.toNat ≤ 1000 * 1000 := Nat.mul_le_mul (by omega) (by omega)
        omega
      · cases hp
    · cases hp
  · cases hp
end
/-! ### t[::-1] -/
section
variable {prog : Program} {w : World} {A : Around} {E : Value → Shared → Prop} {s : Shared}
theorem adj_rev (n : Nat) : Builtin.Slice.sliceAdjust none none (-1) (n : Int) = ((n : Int) - 1, -1) := by
  unfold Builtin.Slice.sliceAdjust
  simp
theorem plc_rev (n : Nat) : Builtin.Slice.slicePlaces ((n : Int) - 1) (-1) (-1) = n := by
  unfold Builtin.Slice.slicePlaces
  have h1 : ¬ ((-1 : Int) > 0) := by omega
  simp only [h1, if_false]
  rw [show (- -1 : Int) = 1 from rfl, Int.ediv_one]
  split <;> omega
theorem fm_congr {α β : Type} {f g : α → Option β} : ∀ {l : List α}, (∀ x ∈ l, f x = g x) → l.filterMap f = l.filterMap g
  | [], _ => rfl
  | x :: l, h => by
    rw [List.filterMap_cons, List.filterMap_cons, h x List.mem_cons_self, fm_congr fun y hy => h y (List.mem_cons_of_mem _ hy)]
theorem sa_rev {sl : Addr} {vs : Value} {n : Nat} {Q : Int × Int × Nat → Shared → Prop} (hs : s.heap.IsSliceOf sl .none .none vs) (ps : IsPart vs (some (-1)))
    (h : Q ((n : Int) - 1, -1, n) s) : wpAny (model prog w) A (Builtin.Slice.sliceApplied (.ref sl) (pure (n : Int))) Q E s := by
  obtain ⟨o, ho, hc, hd⟩ := id hs
  unfold Builtin.Slice.sliceApplied Builtin.Slice.sliceFields
  refine wpAny_bind (wpAny_bind (wpAny_field ho hd (x := .none) rfl (wpAny_bind (wpAny_field ho hd (x := .none) rfl (wpAny_bind (wpAny_field ho hd (x := vs) rfl (wpAny_pure ?_)))))))
  refine wpAny_bind (HT.slicePart_ ps ?_)
  show wpAny _ _ (if ((-1 : Int) == 0) = true then _ else _) _ _ s
  rw [if_neg (by decide)]
  refine wpAny_bind (HT.slicePart_ .none (wpAny_bind (HT.slicePart_ .none (wpAny_bind (wpAny_pure ?_)))))
  show wpAny _ _ (match Builtin.Slice.sliceAdjust none none (-1) (n : Int) with | (lo, hi) => pure (lo, (-1 : Int), Builtin.Slice.slicePlaces lo hi (-1))) _ _ s
  rw [adj_rev]
  show wpAny _ _ (pure ((n : Int) - 1, (-1 : Int), Builtin.Slice.slicePlaces ((n : Int) - 1) (-1) (-1))) _ _ s
  rw [plc_rev]
  exact wpAny_pure h
theorem pick_rev (xs : Array Value) : ((List.range xs.size).filterMap fun (k : Nat) => xs[(((xs.size : Nat) : Int) - 1 + (k : Int) * (-1)).toNat]?).toArray = xs.toList.reverse.toArray := by
  congr 1
  have e : ∀ k ∈ List.range xs.size, xs[(((xs.size : Nat) : Int) - 1 + (k : Int) * (-1)).toNat]? = xs.toList.reverse[k]? := fun k hk => by
    have hk := List.mem_range.mp hk
    have e1 : (((xs.size : Nat) : Int) - 1 + (k : Int) * (-1)).toNat = xs.size - 1 - k := by omega
    rw [e1, List.getElem?_reverse (by simpa using hk)]
    simp
  have e2 : (List.range xs.size).filterMap (fun (k : Nat) => xs[(((xs.size : Nat) : Int) - 1 + (k : Int) * (-1)).toNat]?) = (List.range xs.size).filterMap fun k => xs.toList.reverse[k]? :=
    fm_congr e
  rw [e2]
  have := krv_all xs.toList.reverse.toArray
  simpa using this
theorem getT_rev {t sl : Addr} {items : Array Value} {vs : Value} {Q : Value → Shared → Prop} (ht : IsTup s.heap t items) (hs : s.heap.IsSliceOf sl .none .none vs) (ps : IsPart vs (some (-1)))
    (h : Q (.ref s.heap.objs.size) { s with heap := s.heap.push { cls := .type "tuple", data := .seq items.toList.reverse.toArray } }) (hsz : items.size ≤ sizeLine) :
    wpAny (model prog w) A (getItem (.ref t) (.ref sl)) Q E s := by
  have hfit : sizeOk (.seq items.toList.reverse.toArray) := by
    show items.toList.reverse.toArray.size ≤ sizeLine
    simpa using hsz
  obtain ⟨o, ho, hc, hd⟩ := id hs
  have hT : s.TypeIs (.ref sl) "slice" := ⟨o, ho, hc⟩
  unfold getItem
  try with_reducible refine wpAny_holding ?_
  first | refine wpAny_bind (wpAny_pure ?_) | skip
  refine wpAny_bind (wpAny_sequenceKey ht.typeIs (by decide) ?_)
  refine wpAny_bind (wpAny_callSpecial?_slot (name := Str.ofString "__getitem__") ht.typeIs PyProof.Rows.slot_tuple_getitem
    (wpAny_call_entry PyProof.Rows.slot_tuple_getitem ht.typeIs entry_tuple_getitem ?_ (args_tuple_getitem _ _)))
  show wpAny _ _ (Builtin.Tuple.tupleItemsOf (.ref t) >>= _) _ _ s
  refine wpAny_bind (tupleItemsOf_ ht ?_)
  refine wpAny_bind (wpAny_typeOf hT ?_)
  rw [if_pos (by decide)]
  refine wpAny_bind (sa_rev hs ps ?_)
  show wpAny _ _ (if ((((items.size : Nat) : Int) - 1) == 0 && (-1 : Int) == 1 && items.size == items.size) = true then _ else _) _ _ s
  rw [if_neg (by simp), pick_rev]
  first
    | exact wpAny_bind (m := Builtin.Tuple.tupleExact _) (wpAny_newObj_type (wpAny_pure ⟨_, rfl, wpAny_pure h⟩) hfit)
    | exact wpAny_bind (m := Builtin.Tuple.tupleExact _) (wpAny_newObj_type (wpAny_bind (wpAny_pure (wpAny_pure ⟨_, rfl, wpAny_pure h⟩))) hfit)
    | exact wpAny_bind (wpAny_bind (m := Builtin.Tuple.tupleExact _) (wpAny_newObj_type (wpAny_pure (wpAny_pure ⟨_, rfl, wpAny_pure h⟩)) hfit))
    | exact wpAny_bind (wpAny_bind (m := Builtin.Tuple.tupleExact _) (wpAny_newObj_type (wpAny_pure ⟨_, rfl, wpAny_pure h⟩) hfit))
end
section
variable {X : Cx}
def tRv (K : PySem.W.Frag) (te : TE) : TE := fun σ H Q => te σ H fun x H1 => rP K .rev [x] H1 Q
/-- e[::-1] -/
theorem pe_rv {e : Expr} {te : TE} {n : Nat} {p1 p2 p3 pos : Pos} (he : PE X e te) : PE X (.Subscript e (.Slice none none (some (.UnaryOp .USub (.Constant (.int 1) n p1) p2)) p3) pos) (tRv X.K te) := by
  refine ⟨fun pins s σ H Q I h => ?_⟩
  refine Subscript_ (thn (he.run pins s σ H _ I h) fun v0 s1 ⟨x, H1, I1, r1, q1⟩ => ?_)
  obtain ⟨a, Φ, qs, v, g, ma, hp, k⟩ := q1.one
  have hst : PO X (some (.UnaryOp .USub (.Constant (.int 1) n p1) p2)) (tPart (tUn (rU fun i => .int (-i)) (tC (.int 1)))) := po_some (pe_un un_neg pe_int)
  have nn : ∀ {s : Shared} {H : Hp}, Inv X pins σ H s → wpAny (model X.prog X.w) X.A (evalPart none X.env) (fun u s' => u = .none ∧ s' = s) X.xe s := fun I => wpAny_pure ⟨rfl, rfl⟩
  refine wpAny_Slice (thn (nn I1) fun vl s2 ⟨el, e2⟩ => ?_)
  subst el e2
  refine thn (nn I1) fun vu s3 ⟨eu, e3⟩ => ?_
  subst eu e3
  refine thn (hst.run pins s3 σ H1 (fun o H4 => o = some (-1) ∧ H4 = H1) I1 ⟨1, rfl, -1, rfl, rfl, rfl⟩) fun vs s4 ⟨o, H4, I4, ps, eo, e4⟩ => ?_
  subst eo e4
  have I5 : Inv X pins σ H4 { s4 with heap := s4.heap.push { cls := .type "slice", data := .fields #[.none, .none, vs] } } := I4.kept (t' := s4.toks) fun b ob q => Heap.get?_push_of_some _ q
  have hf : H4 (s4.heap.push { cls := .type "slice", data := .fields #[.none, .none, vs] }).objs.size = none := I5.hok.fresh (Nat.le_refl _)
  simp only [prim] at hp
  split at hp
  · rename_i xs ea
    cases hp
    obtain ⟨p, us, rfl, q, aa⟩ := g.seqL ma ea
    cases r1
    obtain ⟨its, r, ht, hz⟩ := I5.list q.sq
    have hlen := r.length
    show wpAny (model X.prog X.w) X.A (subscriptTail e _ (.ref p) (.ref s4.heap.objs.size)) (EP X pins σ Q) X.xe _
    refine tail_any (ops := [.ref p, .ref s4.heap.objs.size]) ht.isList.typeIs PySem.slot_list_getitem.lookup ?_ (by with_unfolding_all rfl)
    refine wpAny_getItem_list_slice ht.isList (Heap.IsSliceOf.new _ _ _ vs) .none .none ps (by decide) ?_ (by rw [List.size_toArray]; omega)
    rw [krv_pick]
    refine ⟨.ref _, _, I5.laid (t' := s4.toks) (o := .lst us.reverse) (fun b ob q => Heap.get?_push_of_some _ q) (Nat.le_refl _) ?_, rfl, k _ _ (g.newLst hf aa.reverse)⟩
    exact ⟨by rw [List.length_reverse]; exact hz, _, 0, r.reverse, Heap.get?_push_size _ rfl⟩
  · rename_i xs ea
    cases hp
    obtain ⟨p, us, rfl, q, aa⟩ := g.seqT ma ea
    cases r1
    obtain ⟨its, r, ht, hz⟩ := I5.tuple q
    have hlen := r.length
    show wpAny (model X.prog X.w) X.A (subscriptTail e _ (.ref p) (.ref s4.heap.objs.size)) (EP X pins σ Q) X.xe _
    refine tail_any (ops := [.ref p, .ref s4.heap.objs.size]) ht.typeIs PyProof.Rows.slot_tuple_getitem.lookup ?_ (by with_unfolding_all rfl)
    refine getT_rev ht (Heap.IsSliceOf.new _ _ _ vs) ps ?_ (by rw [List.size_toArray]; omega)
    rw [show its.toArray.toList.reverse.toArray = its.reverse.toArray by simp]
    refine ⟨.ref _, _, I5.laid (t' := s4.toks) (o := .tup us.reverse) (fun b ob q => Heap.get?_push_of_some _ q) (Nat.le_refl _) ?_, rfl, k _ _ (g.newTup hf aa.reverse)⟩
    exact ⟨by rw [List.length_reverse]; exact hz, its.reverse, r.reverse, IsTup.new _ _⟩
  · cases hp
end
/-! ### enumerate(tuple) -/
theorem meets_enumerate_newT (l : Addr) (items : Array Value) (n : Nat) (dct : Option Addr) (sl : Array (Option Value)) :
    Meets (Builtin.«enumerate.__new__» ⟨[.type "enumerate", .ref l], []⟩) (fun _ R s => s.heap.get? l = some { cls := .type "tuple", dict := dct, data := .seq items n, slots := sl } ∧
      R (.ok (.ret (.ref (s.heap.push { cls := .type "tuple_iterator", data := .fields #[.ref l, .int 0 0] }).objs.size)))
        { s with heap := (s.heap.push { cls := .type "tuple_iterator", data := .fields #[.ref l, .int 0 0] }).push { cls := .type "enumerate", data := .fields #[.none, .bool false, .ref s.heap.objs.size, rawInt 0, .none, .none] } }) :=
  .of_wp fun prog w A R s h => by
    obtain ⟨hp, g, d, tk, os⟩ := s; obtain ⟨hl, h⟩ := h
    have hsub := sub_enumerate
    have hL : Heap.IsTuple (Shared.heap ⟨hp, g, d, tk, os⟩) l items := ⟨_, hl, rfl, n, rfl⟩
    wp_walk using AutoSeq1.wpAny_loadPart' hl
    refine wpAny_stack_any fun st => wpAny_pure ?_
    split
    · rename_i c _ _ _ _ _
      cases (c == Value.type "enumerate")
      · wp_walk using AutoSeq1.wpAny_loadPart' hl, wpAny_pyIter_tuple hL
        exact ⟨_, rfl, h⟩
      · wp_walk using AutoSeq1.wpAny_loadPart' hl, wpAny_pyIter_tuple hL
        exact ⟨_, rfl, h⟩
    · wp_walk using AutoSeq1.wpAny_loadPart' hl, wpAny_pyIter_tuple hL
      exact ⟨_, rfl, h⟩
theorem call_enumerate_tuple {prog : Program} {w : World} {A : Around} {E : Value → Shared → Prop} {s : Shared} {l : Addr} {items : Array Value} {Q : Value → Shared → Prop} (hL : s.heap.IsTuple l items)
    (h : ∀ h', IsEnum h' (s.heap.objs.size + 1) s.heap.objs.size 0 .none → h'.IsTupleIter s.heap.objs.size l 0 → h'.IsTuple l items → h'.objs.size = s.heap.objs.size + 2 →
      (∀ b o, s.heap.get? b = some o → h'.get? b = some o) → Q (.ref (s.heap.objs.size + 1)) { s with heap := h' }) :
    wpAny (model prog w) A (call (.type "enumerate") [.ref l]) Q E s := by
  obtain ⟨⟨c, dct, dt, sl⟩, hl, hc, n, hd⟩ := id hL
  replace hc : c = .type "tuple" := hc
  replace hd : dt = .seq items n := hd
  subst hc hd
  refine callType_new F.called_enumerate (by decide) (F.typeCall_enumerate_1 _) (F.newCall_enumerate_1 _) (fun obj => F.args_object_init_2 obj _) F.entry_enumerate_new
    (meets_enumerate_newT l items n dct sl) ⟨hl, ?_⟩
  have hz : (s.heap.push { cls := .type "tuple_iterator", data := .fields #[.ref l, .int 0 0] }).objs.size = s.heap.objs.size + 1 := Heap.size_push ..
  show _ ∧ _
  rw [hz]
  have he : IsEnum ((s.heap.push { cls := .type "tuple_iterator", data := .fields #[.ref l, .int 0 0] }).push
      { cls := .type "enumerate", data := .fields #[.none, .bool false, .ref s.heap.objs.size, rawInt 0, .none, .none] }) (s.heap.objs.size + 1) s.heap.objs.size 0 .none := by
    have := Heap.get?_push_size (s.heap.push { cls := .type "tuple_iterator", data := .fields #[.ref l, .int 0 0] })
      (o := { cls := .type "enumerate", data := .fields #[.none, .bool false, .ref s.heap.objs.size, rawInt 0, .none, .none] }) rfl
    rw [hz] at this; exact this
  refine ⟨⟨_, he, rfl⟩, h _ he ⟨_, Heap.get?_push_of_some _ (Heap.get?_push_size _ rfl), rfl, rfl⟩ (hL.at fun o x => Heap.get?_push_of_some _ (Heap.get?_push_of_some _ x)) (by rw [Heap.size_push, hz]) fun b o x => Heap.get?_push_of_some _ (Heap.get?_push_of_some _ x)⟩
/-- the tuple at a, each item in a new pair -/
def IteT (K : PySem.W.Frag) (a : Addr) : It :=
  ⟨fun i H => ∃ (xs : List V) (x : V), SqT K H a xs ∧ xs[i]? = some x, fun i H v H' => ∃ T x, v = .ref T ∧ H T = none ∧ H' = upd H T (.tup [.int (i : Nat), x]) ∧ ∀ xs, SqT K H a xs → xs[i]? = some x, fun i H => ∃ xs : List V, SqT K H a xs ∧ xs.length ≤ i⟩
theorem turn_enumT {P : Program} {w : World} {K : PySem.W.Frag} {elts : List Expr} {kk : Nat} {tpos : Pos} (a e it : Addr) (nae : a ≠ e) (nai : a ≠ it) :
    Turn P w K (.Tuple elts kk tpos) (IteT K a) [e, it] e (fun i h => (∃ old, IsEnum h e it ((i : Nat) : Int) old) ∧ h.IsTupleIter it a i ∧ e ≠ it) where
  mem := by simp
  obj := fun i h st b hb => by
    obtain ⟨⟨old, he⟩, ⟨o, ho, hc, hd⟩, _⟩ := st
    have e' : b = e ∨ b = it := by simpa using hb
    rcases e' with z | z
    · rw [z]; exact ⟨_, he, fun v q => nomatch q⟩
    · rw [z]; exact ⟨o, ho, fun v q => by rw [hd] at q; cases q⟩
  keep := fun i h h' st k => let ⟨⟨old, he⟩, hi, hne⟩ := st; ⟨⟨old, k e (by simp) _ he⟩, hi.at fun o q => k it (by simp) o q, hne⟩
  item := by
    intro X hP hw hK hc i pins s σ H E I hf st hg
    subst hP hw hK
    obtain ⟨⟨old, he⟩, hit, hne⟩ := st
    obtain ⟨xs, x, hq, hx⟩ := hg
    obtain ⟨its, rv, p, hz⟩ := I.tuple hq
    have p : s.heap.IsTuple a its.toArray := p
    obtain ⟨u, hu, ru⟩ := rv.get hx
    have hel : e < s.heap.objs.size := Heap.lt_size he
    have hil : it < s.heap.objs.size := by obtain ⟨_, q, _⟩ := hit; exact Heap.lt_size q
    have hlt : i < its.toArray.size := by
      rw [List.size_toArray]
      exact (List.getElem?_eq_some_iff.mp hu).1
    have hh : X.A.in1.handled = none := I.ok.hd hc
    refine wpAny_pyNext_enum_itemD (Draws.tuple hh it a nai its.toArray) he ⟨hit, p⟩ hlt hne (by simp [hne, Ne.symm nae]) fun u2 h' tk hu2 ho hst' hT hsz hk => ?_
    have eu : u2 = u := by
      have h1 : its[i]? = some u2 := by simpa using hu2
      rw [hu] at h1
      exact (Option.some.inj h1).symm
    subst eu
    obtain ⟨hit', p'⟩ := hst'
    refine ⟨_, rfl, wpAny_letOwnedTupleGo_enum (s := { s with heap := h', toks := tk + 1 }) ho fun h'' he' sb => ?_⟩
    have hT2 : h''.get? s.heap.objs.size = some { cls := .type "tuple", data := .seq #[.int i tk, u2] } := (sb.2 _ (Nat.ne_of_gt hel)).trans hT
    have new : ObjOk X.prog X.w (upd H s.heap.objs.size (.tup [.int (i : Nat), x])) h'' s.heap.objs.size (.tup [.int (i : Nat), x]) :=
      ⟨by show 2 ≤ sizeLine; decide, [.int i tk, u2], .cons ⟨_, rfl⟩ (.cons ru .nil), ⟨_, hT2, rfl, _, rfl⟩⟩
    have I1 : Inv X pins σ (upd H s.heap.objs.size (.tup [.int (i : Nat), x])) { s with heap := h'', toks := tk + 1 } :=
      I.turnedNew (ch := [e, it]) (fun b ob hb q => (sb.2 b (fun z => hb (by simp [z]))).trans (hk b ob (fun z => hb (by simp [z])) (fun z => hb (by simp [z])) q)) hf (Nat.le_refl _) new
    refine ⟨.ref s.heap.objs.size, _, I1, rfl, ⟨_, x, rfl, I.hok.fresh (Nat.le_refl _), rfl, fun ys hy => by rw [I.tuple_inj hy hq]; exact hx⟩, ⟨⟨u2, ?_⟩, hit'.at fun o q => (sb.2 it (Ne.symm hne)).trans q, hne⟩, fun b hb => ?_⟩
    · have e1 : ((i + 1 : Nat) : Int) = (i : Int) + 1 := by omega
      rw [e1]; exact he'
    · have hb' : b < s.heap.objs.size := by
        have e' : b = e ∨ b = it := by simpa using hb
        rcases e' with z | z
        · rw [z]; exact hel
        · rw [z]; exact hil
      rw [upd_ne (Nat.ne_of_lt hb')]
      exact (hf b hb).1
  done := by
    intro X hP hw hK hc i pins s σ H E I hf st hg
    subst hP hw hK
    obtain ⟨⟨old, he⟩, hit, hne⟩ := st
    obtain ⟨xs, hq, hx⟩ := hg
    obtain ⟨its, rv, p, hz⟩ := I.tuple hq
    have p : s.heap.IsTuple a its.toArray := p
    obtain ⟨f0, f1, f2, f3, f4, f5⟩ := hf it (by simp)
    have hl := rv.length
    have hh : X.A.in1.handled = none := I.ok.hd hc
    have hT : s.TypeIs (.ref e) "enumerate" := ⟨_, he, rfl⟩
    unfold pyNext
    refine wpAny_bind (wpAny_attempt (wpAny_callSpecial?_slot (name := Str.ofString "__next__") hT F.slot_enumerate_next
      (wpAny_call_entry F.slot_enumerate_next hT F.entry_enumerate_next ?_ (F.args_enumerate_next_1 _))))
    show wpAny _ _ (field (.ref e) 2 >>= _) _ _ _
    refine wpAny_bind (wpAny_field he rfl (x := .ref it) rfl ?_)
    refine wpAny_bind (wpAny_nextOf_tuple_end hh hit p (by simp; omega) fun h' x he' hx' => ?_)
    obtain ⟨o, ho, hc'⟩ := hx'
    refine wpAny_bind (wpAny_isInstance (T := "StopIteration") (b := true) ⟨o, ho, hc'⟩ isSubtype_stop ?_)
    exact wpAny_pure ⟨rfl, I.turned (t' := s.toks) (fun b o hb q => he' b o hb q) f0 f1 f3 f4 f5⟩
  self := fun A i s Q E st h => let ⟨⟨_, he⟩, _⟩ := st; wpAny_pyIter_enum he h
def iEnumA (K : PySem.W.Frag) (ta : TA) : TI := fun σ H R => ta σ H fun vs H1 => ∃ a, vs = [.ref a] ∧ (((∃ xs, SqL K H1 a xs) ∧ R (Ite K a) H1) ∨ ((∃ xs, SqT K H1 a xs) ∧ R (IteT K a) H1))
theorem pi_enumA {X : Cx} {e : Expr} {ta : TA} {p pos tpos : Pos} {elts : List Expr} {kk : Nat} (hg : Gl X "enumerate") (hm : X.mg "enumerate" = none) (ha : PA X [e] ta) (hs : starEach [e] X.env = [(false, eval e X.env)] := by rfl) :
    PI X (.Tuple elts kk tpos) (.Call (.Name "enumerate" p) [e] [] pos) (iEnumA X.K ta) := by
  refine ⟨fun pins s σ H R I h => ?_⟩
  refine Call_ (ld_blt I hg hm boot_enumerate (PyProof.Rows.callWith_type1 (thn (ha.run pos pins s σ H _ I h) fun us s1 ⟨vs, H1, I1, r1, q1⟩ => ?_) hs rfl))
  obtain ⟨a, ex, q1⟩ := q1
  subst ex
  cases r1 with
  | cons r rr =>
    cases rr
    cases r
    have fresh : ∀ b, b ∈ [s1.heap.objs.size + 1, s1.heap.objs.size] → FpOk X pins H1 b := fun b hb => by
      have e' : b = s1.heap.objs.size + 1 ∨ b = s1.heap.objs.size := by simpa using hb
      have hle : s1.heap.objs.size ≤ b := by
        rcases e' with z | z
        · rw [z]; exact Nat.le_add_right _ _
        · rw [z]; exact Nat.le_refl _
      exact I1.fpOk hle (I1.hok.fresh hle)
    rcases q1 with ⟨⟨xs, hq⟩, q⟩ | ⟨⟨xs, hq⟩, q⟩
    · obtain ⟨its, rv, p', hz⟩ := I1.list hq
      refine call_enumerate_list p'.isList fun h' he hit hsz hk => wpAny_pyIter_enum he ?_
      have I2 : Inv X pins σ H1 { s1 with heap := h' } := I1.kept (t' := s1.toks) hk
      exact ⟨s1.heap.objs.size + 1, [s1.heap.objs.size + 1, s1.heap.objs.size], _, _, H1, rfl, I2, turn_enum a (s1.heap.objs.size + 1) s1.heap.objs.size, ⟨⟨.none, he⟩, hit, Nat.succ_ne_self _⟩, fresh, q⟩
    · obtain ⟨its, rv, p', hz⟩ := I1.tuple hq
      have p' : s1.heap.IsTuple a its.toArray := p'
      have hlt : a < s1.heap.objs.size := by obtain ⟨_, q0, _⟩ := p'; exact Heap.lt_size q0
      refine call_enumerate_tuple p' fun h' he hit p2 hsz hk => wpAny_pyIter_enum he ?_
      have I2 : Inv X pins σ H1 { s1 with heap := h' } := I1.kept (t' := s1.toks) hk
      exact ⟨s1.heap.objs.size + 1, [s1.heap.objs.size + 1, s1.heap.objs.size], _, _, H1, rfl, I2, turn_enumT a (s1.heap.objs.size + 1) s1.heap.objs.size (Nat.ne_of_lt (Nat.lt_succ_of_lt hlt)) (Nat.ne_of_lt hlt), ⟨⟨.none, he⟩, hit, Nat.succ_ne_self _⟩, fresh, q⟩
end Eng
set_option Elab.async false
set_option linter.all false
set_option maxRecDepth 100000
set_option maxHeartbeats 4000000
/-! Eng7: operands, displays, arguments: the state of a frame from step to step. -/
namespace Eng
open PySem PySem.Spec PyProof.Rows L2 StX

theorem slotV_some {ρ : Env} {i : Nat} {x : Val} (h : slotV ρ i = some x) : ρ[i]? = some (some x) := by
  unfold slotV at h
  cases q : ρ[i]? with
  | none => rw [q] at h; cases h
  | some o => rw [q] at h; simp only [Option.join] at h; rw [show o = some x from h]
section
variable {K : PySem.W.Frag} {Φ : Fm} {fx : List (Nat × V)} {H : Hp} {qs qs' zs tm : List Pr} {ρ : Env} {σ : Sl}
theorem RS.len (r : RS K Φ fx ρ tm σ H) : ρ.length = σ.length := let ⟨_, p, _⟩ := r; p.len
theorem RS.drop {ts us : List Pr} (r : RS K Φ fx ρ (tm ++ ts ++ us) σ H) : RS K Φ fx ρ (tm ++ us) σ H := by
  obtain ⟨ps, p, g, f⟩ := r
  refine ⟨ps, p, g.less (zs := ts) ?_, f⟩
  simp only [List.append_assoc]
  exact .append_left ps (.append_left tm List.perm_append_comm)
theorem RS.left {ts : List Pr} (r : RS K Φ fx ρ (tm ++ ts) σ H) : RS K Φ fx ρ tm σ H := by
  have := RS.drop (us := []) (by rw [List.append_nil]; exact r)
  rwa [List.append_nil] at this
/-- a slot, where its value stands -/
theorem RS.slot (r : RS K Φ fx ρ tm σ H) {i : Nat} {x : Val} (h : slotV ρ i = some x) : ∃ v, σ[i]? = some (some v) := by
  obtain ⟨ps, p, g, f⟩ := r
  obtain ⟨v, h1, _⟩ := p.get (slotV_some h)
  exact ⟨v, h1⟩
/-- a frozen thing more in hand -/
theorem RS.push (r : RS K Φ fx ρ tm σ H) {t : D} {v : V} (h : ∀ F, At K F v t) : RS K Φ fx ρ (tm ++ [(.d t, v)]) σ H := by
  obtain ⟨ps, p, g, f⟩ := r
  exact ⟨ps, p, by rw [← List.append_assoc]; exact g.add (h _), f⟩

/-! ### operands -/
inductive OpRel (σ : Sl) : List Opv → List Pr → List V → Prop
  | nil : OpRel σ [] [] []
  | sl {i : Nat} {os : List Opv} {ts : List Pr} {ys : List V} {y : V} : σ[i]? = some (some y) → OpRel σ os ts ys → OpRel σ (.sl i :: os) ts (y :: ys)
  | vl {v : Val} {os : List Opv} {ts : List Pr} {ys : List V} {y : V} : OpRel σ os ts ys → OpRel σ (.vl v :: os) ((v, y) :: ts) (y :: ys)
theorem OpRel.res : ∀ {os : List Opv} {ts : List Pr} {ys : List V} {xs : List Val} {ps : List Pr}, OpRel σ os ts ys → PR ρ σ ps → resolve ρ os = some xs →
    xs.length = ys.length ∧ ∀ q ∈ xs.zip ys, q ∈ ps ++ ts
  | _, _, _, xs, ps, .nil, _, h => by cases h; exact ⟨rfl, fun q hq => by simp at hq⟩
  | _, _, _, xs, ps, .sl (i := i) (os := os) e r, p, h => by
    obtain ⟨v, h1, h2⟩ := Option.bind_eq_some_iff.mp h
    obtain ⟨ws, h3, rfl⟩ := Option.map_eq_some_iff.mp h2
    obtain ⟨l, m⟩ := r.res p h3
    refine ⟨by simp [l], fun q hq => ?_⟩
    rw [List.zip_cons_cons] at hq
    rcases List.mem_cons.mp hq with rfl | hq
    · obtain ⟨y', e', mm⟩ := p.get (slotV_some h1)
      rw [e] at e'
      cases e'
      exact List.mem_append_left _ mm
    · exact m q hq
  | _, _, _, xs, ps, .vl (os := os) r, p, h => by
    obtain ⟨ws, h3, rfl⟩ := Option.map_eq_some_iff.mp h
    obtain ⟨l, m⟩ := r.res p h3
    refine ⟨by simp [l], fun q hq => ?_⟩
    rw [List.zip_cons_cons] at hq
    rcases List.mem_cons.mp hq with rfl | hq
    · exact List.mem_append_right _ List.mem_cons_self
    · rcases List.mem_append.mp (m q hq) with m | m
      · exact List.mem_append_left _ m
      · exact List.mem_append_right _ (List.mem_cons_of_mem _ m)
/-- an operation over resolved operands -/
theorem op_fin {ρ : Env} {os : List Opv} {tm' : List Pr} {ys : List V} {xs : List Val} {p : Prim} {v : Val} {Q : VK} (r : RS K Φ fx ρ (tm ++ tm') σ H) (o : OpRel σ os tm' ys) (e : resolve ρ os = some xs) (hp : prim p xs = some v)
    (k : ∀ y H', RS K Φ fx ρ (tm ++ [(v, y)]) σ H' → Q y H') : rP K p ys H Q := by
  obtain ⟨ps, q, g, f⟩ := r
  obtain ⟨l, m⟩ := o.res q e
  refine ⟨xs, Φ, ps ++ (tm ++ tm'), v, g, l, fun z hz => ?_, hp, fun y H' g' => k y H' ?_⟩
  · rcases List.mem_append.mp (m z hz) with m | m
    · exact List.mem_append_left _ m
    · exact List.mem_append_right _ (List.mem_append_right _ m)
  · have : RS K Φ fx ρ (tm ++ tm' ++ [(v, y)]) σ H' := ⟨ps, q, by rw [← List.append_assoc]; exact g', f⟩
    exact this.drop
/-- a frozen answer from the operand alone -/
theorem RS.good (r : RS K Φ fx ρ tm σ H) : ∃ ps, Good K Φ H (ps ++ tm) := let ⟨ps, _, g, _⟩ := r; ⟨ps, g⟩
/-- the state keeps while what is in hand changes -/
theorem RS.hand {tm' : List Pr} {H' : Hp} (r : RS K Φ fx ρ tm σ H) (h : ∀ ps, Good K Φ H (ps ++ tm) → Good K Φ H' (ps ++ tm')) : RS K Φ fx ρ tm' σ H' := by
  obtain ⟨ps, q, g, f⟩ := r
  exact ⟨ps, q, h ps g, f⟩

/-! ### what an expression's reading asks -/
variable {C : Ctx}
def tD (K : PySem.W.Frag) (C : Ctx) (Φ : Fm) (fx : List (Nat × V)) (m : ME) : TE := fun σ H Q =>
  ∃ (ρ : Env) (tm : List Pr) (v : Val) (ρ' : Env), den C m ρ = some (v, ρ') ∧ RS K Φ fx ρ tm σ H ∧ ∀ y H', RS K Φ fx ρ' (tm ++ [(v, y)]) σ H' → Q y H'
def tT (K : PySem.W.Frag) (C : Ctx) (Φ : Fm) (fx : List (Nat × V)) (m : ME) : TT := fun σ H Q =>
  ∃ (ρ : Env) (tm : List Pr) (b : Bool) (ρ' : Env), den C m ρ = some (.d (.bool b), ρ') ∧ RS K Φ fx ρ tm σ H ∧ ∀ H', RS K Φ fx ρ' tm σ H' → Q b H'
/-- an operand -/
def tO (K : PySem.W.Frag) (C : Ctx) (Φ : Fm) (fx : List (Nat × V)) : ME → TE
  | .var i => tVar i
  | m => tD K C Φ fx m
def tOs (K : PySem.W.Frag) (C : Ctx) (Φ : Fm) (fx : List (Nat × V)) : MEs → TA
  | .nil => tNil
  | .cons m r => tCons (tO K C Φ fx m) (tOs K C Φ fx r)
  | .star _ r => tOs K C Φ fx r
theorem os_run : ∀ (ms : MEs) {ρ ρ' : Env} {tm : List Pr} {σ : Sl} {H : Hp} {os : List Opv} {R : List V → Hp → Prop}, denOs C ms ρ = some (os, ρ') → RS K Φ fx ρ tm σ H →
    (∀ ys tm' H', RS K Φ fx ρ' (tm ++ tm') σ H' → OpRel σ os tm' ys → R ys H') → tOs K C Φ fx ms σ H R
  | .nil, ρ, ρ', tm, σ, H, os, R, h, r, k => by
    simp only [denOs, Option.some.injEq, Prod.mk.injEq] at h
    obtain ⟨rfl, rfl⟩ := h
    exact k [] [] H (by rw [List.append_nil]; exact r) .nil
  | .star _ _, _, _, _, _, _, _, _, h, _, _ => by simp [denOs] at h
  | .cons m ms, ρ, ρ', tm, σ, H, os, R, h, r, k => by
    have other : ∀ v, den C m ρ = some v → (denOs C ms v.2).map (fun w => ((.vl v.1 :: w.1 : List Opv), w.2)) = some (os, ρ') →
        tD K C Φ fx m σ H fun x H1 => tOs K C Φ fx ms σ H1 fun xs H2 => R (x :: xs) H2 := fun v h1 h2 => by
      obtain ⟨w, h3, h4⟩ := Option.map_eq_some_iff.mp h2
      cases h4
      refine ⟨ρ, tm, v.1, v.2, h1, r, fun y H' r1 => os_run ms h3 r1 fun ys tm' H2 r2 o => k _ ((v.1, y) :: tm') H2 (by rw [List.append_cons]; exact r2) (.vl o)⟩
    show (tO K C Φ fx m) σ H fun x H1 => tOs K C Φ fx ms σ H1 fun xs H2 => R (x :: xs) H2
    unfold denOs at h
    cases m with
    | var i =>
      obtain ⟨x, h1, h2⟩ := Option.bind_eq_some_iff.mp h
      obtain ⟨w, h3, h4⟩ := Option.map_eq_some_iff.mp h2
      cases h4
      obtain ⟨y, hy⟩ := r.slot h1
      exact ⟨y, hy, os_run ms h3 r fun ys tm' H2 r2 o => k _ tm' H2 r2 (.sl hy o)⟩
    | k c => obtain ⟨v, h1, h2⟩ := Option.bind_eq_some_iff.mp h; exact other v h1 h2
    | glob i => obtain ⟨v, h1, h2⟩ := Option.bind_eq_some_iff.mp h; exact other v h1 h2
    | prim p as => obtain ⟨v, h1, h2⟩ := Option.bind_eq_some_iff.mp h; exact other v h1 h2
    | chain p q as c => obtain ⟨v, h1, h2⟩ := Option.bind_eq_some_iff.mp h; exact other v h1 h2
    | cut as lo hi => obtain ⟨v, h1, h2⟩ := Option.bind_eq_some_iff.mp h; exact other v h1 h2
    | not a => obtain ⟨v, h1, h2⟩ := Option.bind_eq_some_iff.mp h; exact other v h1 h2
    | and a b => obtain ⟨v, h1, h2⟩ := Option.bind_eq_some_iff.mp h; exact other v h1 h2
    | or a b => obtain ⟨v, h1, h2⟩ := Option.bind_eq_some_iff.mp h; exact other v h1 h2
    | ite c a b => obtain ⟨v, h1, h2⟩ := Option.bind_eq_some_iff.mp h; exact other v h1 h2
    | fn f as => obtain ⟨v, h1, h2⟩ := Option.bind_eq_some_iff.mp h; exact other v h1 h2
    | fnK f perm as => obtain ⟨v, h1, h2⟩ := Option.bind_eq_some_iff.mp h; exact other v h1 h2
    | tup as => obtain ⟨v, h1, h2⟩ := Option.bind_eq_some_iff.mp h; exact other v h1 h2
    | lst as => obtain ⟨v, h1, h2⟩ := Option.bind_eq_some_iff.mp h; exact other v h1 h2
    | dic => obtain ⟨v, h1, h2⟩ := Option.bind_eq_some_iff.mp h; exact other v h1 h2
    | comp elt t it ifs own => obtain ⟨v, h1, h2⟩ := Option.bind_eq_some_iff.mp h; exact other v h1 h2

/-! ### displays -/
def tVs (K : PySem.W.Frag) (C : Ctx) (Φ : Fm) (fx : List (Nat × V)) : MEs → TA
  | .nil => tNil
  | .cons m r => tCons (tD K C Φ fx m) (tVs K C Φ fx r)
  | .star m r => tStar K (tD K C Φ fx m) (tVs K C Φ fx r)
theorem Good.addAll : ∀ {qs : List Pr} {vs : List V} {ts : List D}, Good K Φ H qs → AtAll K (fz Φ H qs) vs ts → Good K Φ H (qs ++ (ts.map Val.d).zip vs) ∧ ow (qs ++ (ts.map Val.d).zip vs) = ow qs
  | qs, _, _, g, .nil => by simp; exact g
  | qs, _, _, g, .cons (v := v) (vs := vs) (t := t) (ts := ts) a r => by
    have g1 := g.add a
    have e1 : ow (qs ++ [(Val.d t, v)]) = ow qs := by rw [ow_app, ow_d, List.append_nil]
    obtain ⟨g2, e2⟩ := Good.addAll (vs := vs) (ts := ts) g1 (by unfold fz; rw [e1]; exact r)
    rw [List.append_assoc] at g2 e2
    exact ⟨g2, by rw [List.map_cons, List.zip_cons_cons]; rw [show (Val.d t, v) :: (ts.map Val.d).zip vs = [(Val.d t, v)] ++ (ts.map Val.d).zip vs from rfl, e2, e1]⟩
theorem vs_run : ∀ (ms : MEs) {ρ ρ' : Env} {tm : List Pr} {σ : Sl} {H : Hp} {xs : List Val} {R : List V → Hp → Prop}, denVs C ms ρ = some (xs, ρ') → RS K Φ fx ρ tm σ H →
    (∀ ys H', ys.length = xs.length → RS K Φ fx ρ' (tm ++ xs.zip ys) σ H' → R ys H') → tVs K C Φ fx ms σ H R
  | .nil, ρ, ρ', tm, σ, H, xs, R, h, r, k => by
    simp only [denVs, Option.some.injEq, Prod.mk.injEq] at h
    obtain ⟨rfl, rfl⟩ := h
    exact k [] H rfl (by rw [List.zip_nil_left, List.append_nil]; exact r)
  | .cons m ms, ρ, ρ', tm, σ, H, xs, R, h, r, k => by
    obtain ⟨v, h1, h2⟩ := Option.bind_eq_some_iff.mp h
    obtain ⟨w, h3, h4⟩ := Option.map_eq_some_iff.mp h2
    cases h4
    exact ⟨ρ, tm, v.1, v.2, h1, r, fun y H' r1 => vs_run ms h3 r1 fun ys H2 l r2 => k (y :: ys) H2 (by simp [l]) (by rw [List.zip_cons_cons, List.append_cons]; exact r2)⟩
  | .star m ms, ρ, ρ', tm, σ, H, xs, R, h, r, k => by
    obtain ⟨v, h1, h2⟩ := Option.bind_eq_some_iff.mp h
    obtain ⟨ts, e, h2⟩ := Option.bind_eq_some_iff.mp h2
    obtain ⟨w, h3, h4⟩ := Option.map_eq_some_iff.mp h2
    cases h4
    refine ⟨ρ, tm, v.1, v.2, h1, r, fun y H' r1 => ?_⟩
    obtain ⟨ps, p, g, f⟩ := r1
    rw [← List.append_assoc] at g
    obtain ⟨a, us, rfl, q, aa⟩ := g.seq (List.mem_append_right _ List.mem_cons_self) e
    refine ⟨a, us, rfl, q.elim (fun z => .inr z.2.sq) fun z => .inl z.2, ?_⟩
    obtain ⟨g2, _⟩ := g.addAll aa
    have r2 : RS K Φ fx v.2 (tm ++ [(v.1, V.ref a)] ++ (ts.map Val.d).zip us) σ H' := ⟨ps, p, by rw [← List.append_assoc, ← List.append_assoc]; exact g2, f⟩
    have lu : us.length = (ts.map Val.d).length := by rw [List.length_map]; exact aa.length
    refine vs_run ms h3 r2.drop fun ys H2 l r3 => k (us ++ ys) H2 (by rw [List.length_append, List.length_append, lu, l]) ?_
    rw [List.zip_append lu.symm, ← List.append_assoc]
    exact r3
/-- everything in hand behind a point is frozen -/
theorem Good.frzAll : ∀ {xs : List Val} {ys : List V} {qs : List Pr}, ys.length = xs.length → Good K Φ H (qs ++ xs.zip ys) → Good K Φ H (qs ++ (xs.map fun x => Val.d x.dat).zip ys)
  | [], _, qs, _, g => g
  | x :: xs, [], qs, l, g => by simp at l
  | x :: xs, y :: ys, qs, l, g => by
    rw [List.zip_cons_cons] at g
    have g1 : Good K Φ H (qs ++ (Val.d x.dat, y) :: xs.zip ys) := by
      cases x with
      | d t => exact g
      | own ts => exact g.freeze
    rw [List.append_cons] at g1
    have g2 := Good.frzAll (by simpa using l) g1
    rw [← List.append_cons] at g2
    exact g2
theorem atAll_zip {F : Hp} : ∀ {xs : List Val} {ys : List V}, ys.length = xs.length → (∀ q ∈ (xs.map fun x => Val.d x.dat).zip ys, RV K F H q) → AtAll K F ys (xs.map Val.dat)
  | [], [], _, _ => .nil
  | [], _ :: _, l, _ => by simp at l
  | _ :: _, [], l, _ => by simp at l
  | x :: xs, y :: ys, l, h => by
    rw [List.map_cons, List.zip_cons_cons] at h
    exact .cons (h _ List.mem_cons_self).ofD (atAll_zip (by simpa using l) fun q hq => h q (List.mem_cons_of_mem _ hq))
/-- a display's object is made -/
theorem RS.made {xs : List Val} {ys : List V} (r : RS K Φ fx ρ (tm ++ xs.zip ys) σ H) (l : ys.length = xs.length) {p : Addr} (hp : H p = none) :
    RS K Φ fx ρ (tm ++ [(.d (.tuple (xs.map Val.dat)), .ref p)]) σ (upd H p (.tup ys)) ∧ RS K Φ fx ρ (tm ++ [(.own (xs.map Val.dat), .ref p)]) σ (upd H p (.lst ys)) := by
  obtain ⟨ps, q, g, f⟩ := r
  rw [← List.append_assoc] at g
  have g1 := Good.frzAll l g
  have aa : AtAll K (fz Φ H (ps ++ tm ++ (xs.map fun x => Val.d x.dat).zip ys)) ys (xs.map Val.dat) := atAll_zip l fun z hz => g1.rv z (List.mem_append_right _ hz)
  have z1 : RS K Φ fx ρ (tm ++ (xs.map fun x => Val.d x.dat).zip ys ++ [(.d (.tuple (xs.map Val.dat)), .ref p)]) σ (upd H p (.tup ys)) := ⟨ps, q, by rw [← List.append_assoc, ← List.append_assoc]; exact g1.newTup hp aa, f⟩
  have z2 : RS K Φ fx ρ (tm ++ (xs.map fun x => Val.d x.dat).zip ys ++ [(.own (xs.map Val.dat), .ref p)]) σ (upd H p (.lst ys)) := ⟨ps, q, by rw [← List.append_assoc, ← List.append_assoc]; exact g1.newLst hp aa, f⟩
  exact ⟨z1.drop, z2.drop⟩
/-- a name's own list is frozen where it is read as a value -/
theorem RS.var {i : Nat} {v : Val} {ρ' : Env} (r : RS K Φ fx ρ tm σ H) (h : den C (.var i) ρ = some (v, ρ')) : ∃ y, σ[i]? = some (some y) ∧ RS K Φ fx ρ' (tm ++ [(v, y)]) σ H := by
  unfold den at h
  split at h
  · rename_i t e
    cases h
    obtain ⟨ps, p, g, f⟩ := r
    obtain ⟨y, h1, h2⟩ := p.get (slotV_some e)
    exact ⟨y, h1, ps, p, by rw [← List.append_assoc]; exact g.add (g.atD (List.mem_append_left _ h2)), f⟩
  · rename_i xs e
    cases h
    obtain ⟨ps, p, g, f⟩ := r
    obtain ⟨y, as, bs, rfl, h1, h2⟩ := p.change (slotV_some e)
    have g1 : Good K Φ H (as ++ (Val.own xs, y) :: (bs ++ tm)) := by
      have := g
      rwa [List.append_assoc, List.cons_append] at this
    have g2 := g1.freeze
    have g3 : Good K Φ H ((as ++ (Val.d (.list xs), y) :: bs) ++ tm) := by rwa [List.append_assoc, List.cons_append]
    exact ⟨y, h1, _, h2 _, by rw [← List.append_assoc]; exact g3.add (g3.atD (List.mem_append_left _ (List.mem_append_right _ List.mem_cons_self))), f⟩
  · cases h
end
end Eng
set_option Elab.async false
set_option linter.all false
set_option maxRecDepth 100000
set_option maxHeartbeats 4000000
/-! Eng8: calls of defs: what is handed over, what comes back. -/
namespace Eng
open PySem PySem.Spec PyProof.Rows L2 StX

/-- an argument behind the call: lists of one's own as the def left them -/
def aft : Val → Val → Val
  | .own _, w => w
  | x, _ => x
def afts : List Val → List Val → List Val
  | x :: xs, w :: ws => aft x w :: afts xs ws
  | xs, _ => xs
/-- a def's promise: by its answer over plain data -/
def spF (K : PySem.W.Frag) (n : Nat) (fn : List Val → Option (Val × List Val)) : Sp := fun vs H Q _ =>
  vs.length = n ∧ ∃ (xs : List Val) (Φ : Fm) (w : Val) (ws : List Val), fn xs = some (w, ws) ∧ xs.length = vs.length ∧ ws.length = xs.length ∧ Good K Φ H (xs.zip vs) ∧
    ∀ y H', Good K Φ H' ((afts xs ws).zip vs ++ [(w, y)]) → Q y H'

def isOw : Pr → Bool
  | (.own _, _) => true
  | _ => false
theorem owA_d {t : D} {v : V} : owA (.d t, v) = none := rfl
theorem ow_filter (qs : List Pr) : ow (qs.filter isOw) = ow qs := by
  induction qs with
  | nil => rfl
  | cons q qs ih =>
    obtain ⟨x, v⟩ := q
    cases x with
    | d t =>
      rw [List.filter_cons_of_neg (by simp [isOw])]
      rw [ih]; rfl
    | own xs =>
      rw [List.filter_cons_of_pos (by simp [isOw])]
      unfold ow at *
      rw [List.filterMap_cons, List.filterMap_cons, ih]
theorem ow_perm {a b : List Pr} (h : a.Perm b) : (ow a).Perm (ow b) := h.filterMap _

section
variable {K : PySem.W.Frag} {H H' : Hp}
/-- what a callee is given: A holds its own lists, Z all its arguments; R stays behind, hidden where it is owned -/
def calleeFm (Φ : Fm) (H : Hp) (A R : List Pr) : Fm := ⟨less H (ow A), ow R ++ Φ.hid⟩
theorem call_in {Φ : Fm} {A R Z : List Pr} (g : Good K Φ H (A ++ R)) (hz : (Z.filter isOw).Perm A) (hd : ∀ q ∈ Z, isOw q = false → q ∈ R) : Good K (calleeFm Φ H A R) H Z := by
  have pz : (ow Z).Perm (ow A) := by rw [← ow_filter Z]; exact ow_perm hz
  have nd := g.nd
  rw [ow_app] at nd
  have mz : ∀ a, a ∈ ow Z ↔ a ∈ ow A := fun a => pz.mem_iff
  have sm : Same (Eng.less H (ow (A ++ R) ++ Φ.hid)) (Eng.less H (ow Z ++ (ow R ++ Φ.hid))) := less_same (fun _ _ e _ => e) fun a o e n m => n (by
    rw [ow_app, List.append_assoc]
    rcases List.mem_append.mp m with m | m
    · exact List.mem_append_left _ ((mz a).mp m)
    · exact List.mem_append_right _ m)
  refine ⟨pz.nodup_iff.mpr (List.nodup_append.mp nd).1, fun q hq => ?_, fun a o h => ?_, fun a ha => ?_⟩
  · have mem : q ∈ A ++ R := by
      cases e : isOw q with
      | true => exact List.mem_append_left _ (hz.mem_iff.mp (List.mem_filter.mpr ⟨hq, e⟩))
      | false => exact List.mem_append_right _ (hd q hq e)
    exact (g.rv q mem).mono sm
  · obtain ⟨h1, h2⟩ := less_some h
    exact ⟨fun m => h1 ((mz a).mp m), h2⟩
  · have z : ∃ o, H a = some o ∧ a ∉ ow A := by
      rcases List.mem_append.mp ha with ha | ha
      · obtain ⟨vs, e⟩ := g.ow_lst (by rw [ow_app]; exact List.mem_append_right _ ha)
        exact ⟨_, e, fun m => (List.nodup_append.mp nd).2.2 a m a ha rfl⟩
      · obtain ⟨o, e⟩ := g.hid_some ha
        exact ⟨o, e, fun m => g.hid_ow ha (by rw [ow_app]; exact List.mem_append_left _ m)⟩
    obtain ⟨o, e, n⟩ := z
    exact ⟨o, less_of n e⟩
/-- and what the caller has behind it: A' the callee's own lists now, with the answer -/
theorem call_out {Φ : Fm} {A R Z' A' : List Pr} (g : Good K Φ H (A ++ R)) (g' : Good K (calleeFm Φ H A R) H' Z') (ha : (A' ++ Z'.filter fun q => !isOw q).Perm Z' ∨ (∃ zs, (A' ++ zs).Perm Z')) : Good K Φ H' (A' ++ R) := by
  obtain ⟨zs, hz⟩ : ∃ zs, (A' ++ zs).Perm Z' := ha.elim (fun h => ⟨_, h⟩) id
  have g2 := g'.less hz
  have nd := g.nd
  rw [ow_app] at nd
  have ndR := (List.nodup_append.mp nd).2.1
  -- what stands in the caller's other lists stays
  have keep : ∀ a o, H a = some o → a ∉ ow A → H' a = some o ∧ a ∉ ow A' := fun a o e n => by
    have b := g2.base a o (less_of n e)
    exact ⟨b.2, b.1⟩
  have nR : ∀ a ∈ ow R, a ∉ ow A := fun a m z => (List.nodup_append.mp nd).2.2 a z a m rfl
  have disj : ∀ a ∈ ow R, a ∉ ow A' := fun a m => by
    obtain ⟨vs, e⟩ := g.ow_lst (by rw [ow_app]; exact List.mem_append_right _ m)
    exact (keep a _ e (nR a m)).2
  have e1 : ow (A' ++ R) = ow A' ++ ow R := ow_app _ _
  have smR : Same (Eng.less H (ow (A ++ R) ++ Φ.hid)) (Eng.less H' (ow (A' ++ R) ++ Φ.hid)) := less_same (fun a o e n => (keep a o e fun m => n (by rw [ow_app]; exact List.mem_append_left _ (List.mem_append_left _ m))).1) fun a o e n m => by
    have nA : a ∉ ow A := fun m => n (by rw [ow_app]; exact List.mem_append_left _ (List.mem_append_left _ m))
    rw [e1, List.append_assoc] at m
    rcases List.mem_append.mp m with m | m
    · exact (keep a o e nA).2 m
    · exact n (by rw [ow_app, List.append_assoc]; exact List.mem_append_right _ m)
  have smA : Same (Eng.less H' (ow A' ++ (calleeFm Φ H A R).hid)) (Eng.less H' (ow (A' ++ R) ++ Φ.hid)) := less_same (fun _ _ e _ => e) fun a o e n m => n (by
    rw [e1, List.append_assoc] at m
    exact m)
  refine ⟨?_, fun q hq => ?_, fun a o h => ?_, g.hidB⟩
  · rw [e1]
    exact List.nodup_append.mpr ⟨g2.nd, ndR, fun x hx y hy z => disj y hy (z ▸ hx)⟩
  · rcases List.mem_append.mp hq with hq | hq
    · exact (g2.rv q hq).mono smA
    · have r := (g.rv q (List.mem_append_right _ hq)).mono smR
      cases r with
      | d a => exact .d a
      | own e a => exact .own (keep _ _ e (nR _ (ow_mem hq))).1 a
  · have b := g.base a o h
    rw [ow_app] at b
    have nA : a ∉ ow A := fun m => b.1 (List.mem_append_left _ m)
    have k := keep a o b.2 nA
    refine ⟨fun m => ?_, k.1⟩
    rw [e1] at m
    rcases List.mem_append.mp m with m | m
    · exact k.2 m
    · exact b.1 (List.mem_append_right _ m)
end

/-! ### slots that give up their lists -/
theorem PR.take : ∀ {ρ : Env} {σ : Sl} {ps : List Pr} {i : Nat} {x : Val}, PR ρ σ ps → ρ[i]? = some (some x) → ∃ v ps0, σ[i]? = some (some v) ∧ PR (ρ.set i none) σ ps0 ∧ ps.Perm ((x, v) :: ps0)
  | _, _, _, _, _, .nil, e => by simp at e
  | _, _, _, 0, _, .skip _, e => by simp at e
  | _, _, _, i + 1, x, .skip h, e => by
    obtain ⟨v, ps0, h1, h2, h3⟩ := h.take (i := i) (x := x) (by simpa using e)
    exact ⟨v, ps0, by simpa using h1, .skip h2, h3⟩
  | _, _, _, 0, _, .cons h, e => by
    simp at e; subst e
    exact ⟨_, _, rfl, .skip h, .refl _⟩
  | _, _, _, i + 1, x, .cons (x := y) (v := w) h, e => by
    obtain ⟨v, ps0, h1, h2, h3⟩ := h.take (i := i) (x := x) (by simpa using e)
    exact ⟨v, (y, w) :: ps0, by simpa using h1, .cons h2, (List.Perm.cons _ h3).trans (List.Perm.swap _ _ _)⟩
theorem PR.put : ∀ {ρ : Env} {σ : Sl} {ps : List Pr} {i : Nat} (x : Val) {v : V}, PR ρ σ ps → ρ[i]? = some none → σ[i]? = some (some v) → ∃ ps1, PR (ρ.set i (some x)) σ ps1 ∧ ps1.Perm ((x, v) :: ps)
  | _, _, _, _, _, _, .nil, e, _ => by simp at e
  | _, _, _, 0, x, v, .skip h, _, e => by
    simp at e; subst e
    exact ⟨_, .cons h, .refl _⟩
  | _, _, _, i + 1, x, v, .skip h, e, e2 => by
    obtain ⟨ps1, h1, h2⟩ := h.put (i := i) x (v := v) (by simpa using e) (by simpa using e2)
    exact ⟨ps1, .skip h1, h2⟩
  | _, _, _, 0, _, _, .cons _, e, _ => by simp at e
  | _, _, _, i + 1, x, v, .cons (x := y) (v := w) h, e, e2 => by
    obtain ⟨ps1, h1, h2⟩ := h.put (i := i) x (v := v) (by simpa using e) (by simpa using e2)
    exact ⟨_, .cons h1, (List.Perm.cons _ h2).trans (List.Perm.swap _ _ _)⟩
theorem take_keeps : ∀ {os : List Opv} {ρ ρ0 : Env} {xs : List Val} {i : Nat}, takeAll os ρ = some (xs, ρ0) → ρ[i]? = some none → ρ0[i]? = some none
  | [], _, _, _, _, h, e => by cases h; exact e
  | .vl v :: os, ρ, ρ0, xs, i, h, e => by
    obtain ⟨w, h1, h2⟩ := Option.map_eq_some_iff.mp h
    cases h2
    exact take_keeps (os := os) h1 e
  | .sl j :: os, ρ, ρ0, xs, i, h, e => by
    obtain ⟨v, h0, h⟩ := Option.bind_eq_some_iff.mp h
    obtain ⟨w, h1, h2⟩ := Option.map_eq_some_iff.mp h
    cases h2
    cases v with
    | d t => exact take_keeps (os := os) h1 e
    | own ts =>
      refine take_keeps (os := os) h1 ?_
      by_cases ij : j = i
      · subst ij
        have := slotV_some h0
        rw [this] at e
        cases e
      · rw [List.getElem?_set_ne ij]; exact e
/-- the own lists of Z: those taken from slots and those in hand -/
theorem take_ok {σ : Sl} : ∀ {os : List Opv} {ts : List Pr} {ys : List V} {ρ ρ0 : Env} {xs : List Val} {ps : List Pr}, OpRel σ os ts ys → takeAll os ρ = some (xs, ρ0) → PR ρ σ ps →
    xs.length = ys.length ∧ ∃ ps0 A, PR ρ0 σ ps0 ∧ ps.Perm (A ++ ps0) ∧ (∀ q ∈ A, isOw q = true) ∧ ((xs.zip ys).filter isOw).Perm (A ++ ts.filter isOw) ∧ (∀ q ∈ xs.zip ys, isOw q = false → q ∈ ps0 ++ ts) ∧
      -- and back
      ∀ (ws : List Val), ws.length = xs.length → ∀ {ρ1 : Env} {ps1 : List Pr}, (∀ i : Nat, ρ0[i]? = some none → ρ1[i]? = some none) → PR ρ1 σ ps1 →
        ∃ ps2 A2, PR (putAll os xs ws ρ1) σ ps2 ∧ ps2.Perm (A2 ++ ps1) ∧ ∃ zs, (A2 ++ zs).Perm ((afts xs ws).zip ys)
  | [], _, _, ρ, ρ0, xs, ps, .nil, h, p => by
    cases h
    exact ⟨rfl, ps, [], p, .refl _, fun q hq => by simp at hq, .refl _, fun q hq => by simp at hq, fun ws _ ρ1 ps1 _ p1 => ⟨ps1, [], by unfold putAll; exact p1, .refl _, [], .refl _⟩⟩
  | .vl v :: os, _, _, ρ, ρ0, xs, ps, .vl (ts := ts) (ys := ys) (y := y) o, h, p => by
    obtain ⟨w, h1, h2⟩ := Option.map_eq_some_iff.mp h
    cases h2
    obtain ⟨l, ps0, A, p0, pp, hA, hf, hd, back⟩ := take_ok o h1 p
    refine ⟨by simp [l], ps0, A, p0, pp, hA, ?_, fun q hq e => ?_, fun ws hl ρ1 ps1 hn p1 => ?_⟩
    · rw [List.zip_cons_cons]
      cases e : isOw (v, y) with
      | true =>
        rw [List.filter_cons_of_pos e, List.filter_cons_of_pos e]
        exact (List.Perm.cons _ hf).trans List.perm_middle.symm
      | false =>
        rw [List.filter_cons_of_neg (by simp [e]), List.filter_cons_of_neg (by simp [e])]
        exact hf
    · rw [List.zip_cons_cons] at hq
      rcases List.mem_cons.mp hq with rfl | hq
      · exact List.mem_append_right _ List.mem_cons_self
      · rcases List.mem_append.mp (hd q hq e) with m | m
        · exact List.mem_append_left _ m
        · exact List.mem_append_right _ (List.mem_cons_of_mem _ m)
    · match ws, hl with
      | u :: ws, hl =>
        obtain ⟨ps2, A2, q1, q2, zs, q3⟩ := back ws (by simpa using hl) hn p1
        refine ⟨ps2, A2, ?_, q2, (aft v u, y) :: zs, ?_⟩
        · unfold putAll
          exact q1
        · show (A2 ++ (aft v u, y) :: zs).Perm ((aft v u, y) :: (afts w.1 ws).zip ys)
          exact List.perm_middle.trans (List.Perm.cons _ q3)
  | .sl i :: os, _, _, ρ, ρ0, xs, ps, .sl (ts := ts) (ys := ys) (y := y) e o, h, p => by
    obtain ⟨v, h0, h⟩ := Option.bind_eq_some_iff.mp h
    obtain ⟨w, h1, h2⟩ := Option.map_eq_some_iff.mp h
    cases h2
    have hs := slotV_some h0
    cases v with
    | d t =>
      obtain ⟨l, ps0, A, p0, pp, hA, hf, hd, back⟩ := take_ok o h1 p
      obtain ⟨y', e', m⟩ := p.get hs
      rw [e] at e'
      cases e'
      refine ⟨by simp [l], ps0, A, p0, pp, hA, ?_, fun q hq ee => ?_, fun ws hl ρ1 ps1 hn p1 => ?_⟩
      · rw [List.zip_cons_cons, List.filter_cons_of_neg (by simp [isOw])]
        exact hf
      · rw [List.zip_cons_cons] at hq
        rcases List.mem_cons.mp hq with rfl | hq
        · rcases List.mem_append.mp (pp.mem_iff.mp m) with z | z
          · have := hA _ z
            simp [isOw] at this
          · exact List.mem_append_left _ z
        · exact hd q hq ee
      · match ws, hl with
        | u :: ws, hl =>
          obtain ⟨ps2, A2, q1, q2, zs, q3⟩ := back ws (by simpa using hl) hn p1
          refine ⟨ps2, A2, ?_, q2, (.d t, y) :: zs, ?_⟩
          · unfold putAll
            exact q1
          · show (A2 ++ (Val.d t, y) :: zs).Perm ((Val.d t, y) :: (afts w.1 ws).zip ys)
            exact List.perm_middle.trans (List.Perm.cons _ q3)
    | own us =>
      obtain ⟨y', pq, e', p1, pp1⟩ := p.take hs
      rw [e] at e'
      cases e'
      obtain ⟨l, ps0, A, p0, pp, hA, hf, hd, back⟩ := take_ok o h1 p1
      have hi : i < ρ.length := by
        rcases Nat.lt_or_ge i ρ.length with h | h
        · exact h
        · rw [List.getElem?_eq_none h] at hs; cases hs
      have hi0 : w.2[i]? = some none := take_keeps h1 (by rw [List.getElem?_set_self hi])
      refine ⟨by simp [l], ps0, (.own us, y) :: A, p0, pp1.trans (List.Perm.cons _ pp), fun q hq => ?_, ?_, fun q hq ee => ?_, fun ws hl ρ1 ps1 hn p1 => ?_⟩
      · rcases List.mem_cons.mp hq with rfl | hq
        · rfl
        · exact hA q hq
      · rw [List.zip_cons_cons, List.filter_cons_of_pos (by simp [isOw])]
        exact List.Perm.cons _ hf
      · rw [List.zip_cons_cons] at hq
        rcases List.mem_cons.mp hq with rfl | hq
        · simp [isOw] at ee
        · exact hd q hq ee
      · match ws, hl with
        | u :: ws, hl =>
          obtain ⟨ps2, A2, q1, q2, zs, q3⟩ := back ws (by simpa using hl) hn p1
          -- slot i is still free where the list comes back
          have free : ∀ {os : List Opv} {xs ws : List Val} {ρ1 : Env} {ys : List V} {ts : List Pr} {ps ps0 : List Pr} {ρ ρ0 : Env}, takeAll os ρ = some (xs, ρ0) → ρ[i]? = some none → ρ1[i]? = some none → (putAll os xs ws ρ1)[i]? = some none := by
            intro os
            induction os with
            | nil => intro xs ws ρ1 ys ts ps ps0 ρ ρ0 _ _ z; cases xs <;> cases ws <;> exact z
            | cons o os ih =>
              intro xs ws ρ1 ys ts ps ps0 ρ ρ0 h z1 z
              cases o with
              | vl v =>
                obtain ⟨w', h1, h2⟩ := Option.map_eq_some_iff.mp h
                cases h2
                cases ws with
                | nil => cases v <;> exact z
                | cons a ws => unfold putAll; exact ih (ys := ys) (ts := ts) (ps := ps) (ps0 := ps0) h1 z1 z
              | sl j =>
                obtain ⟨v, g0, h⟩ := Option.bind_eq_some_iff.mp h
                obtain ⟨w', h1, h2⟩ := Option.map_eq_some_iff.mp h
                cases h2
                cases ws with
                | nil => cases v <;> exact z
                | cons a ws =>
                  cases v with
                  | d t => unfold putAll; exact ih (ys := ys) (ts := ts) (ps := ps) (ps0 := ps0) h1 z1 z
                  | own qs =>
                    have ij : j ≠ i := fun z2 => by
                      subst z2
                      have := slotV_some g0
                      rw [this] at z1; cases z1
                    unfold putAll
                    rw [List.getElem?_set_ne ij]
                    exact ih (ys := ys) (ts := ts) (ps := ps) (ps0 := ps0) h1 (by rw [List.getElem?_set_ne ij]; exact z1) z
          have fr : (putAll os w.1 ws ρ1)[i]? = some none := free (ys := ys) (ts := ts) (ps := ps) (ps0 := ps) h1 (by rw [List.getElem?_set_self hi]) (hn i hi0)
          obtain ⟨ps3, r1, r2⟩ := q1.put u fr e
          refine ⟨ps3, (u, y) :: A2, ?_, r2.trans (List.Perm.cons _ q2), zs, ?_⟩
          · unfold putAll
            exact r1
          · show ((u, y) :: (A2 ++ zs)).Perm ((u, y) :: (afts w.1 ws).zip ys)
            exact List.Perm.cons _ q3
end Eng
set_option Elab.async false
set_option linter.all false
set_option maxRecDepth 100000
set_option maxHeartbeats 4000000
/-! Eng9: a def holds its promise where no repr is under way; the calls. -/
namespace Eng
open PySem PySem.Spec PyProof.Rows L2 StX

structure FnG (P : Program) (w : World) (K : PySem.W.Frag) (mg : Str → Option Value) (base : Heap) (k : Nat) (f : Addr) (fd : FuncData) (ps : List Str) (sp : Sp) : Prop where
  len : ∀ vs H Q E, sp vs H Q E → vs.length = ps.length
  run : ∀ (A : Around) (outer : List PySem.Env) (s : Shared) (H : Hp) (args : Args) (us : List Value) (vs : List V) (Q : VK), A.guards = some [] → Room k A → Env0 P w K mg base A outer s H →
    BindsTo s fd args (ps.zip us) → Vals vs us → sp vs H Q E0 → codeAny (model P w) A (.call (.ref f) args) (CR CX0 outer P w H s Q E0) s
theorem FnG.mono {P : Program} {w : World} {K : PySem.W.Frag} {mg : Str → Option Value} {base : Heap} {j k : Nat} {f : Addr} {fd : FuncData} {ps : List Str} {sp : Sp} (F : FnG P w K mg base j f fd ps sp) (h : j ≤ k) : FnG P w K mg base k f fd ps sp :=
  ⟨F.len, fun A outer s H args us vs Q hg hr => F.run A outer s H args us vs Q hg (hr.mono h)⟩

/-- a def by its body -/
theorem fnG_of {P : Program} {w : World} {K : PySem.W.Frag} {mg : Str → Option Value} {base : Heap} {k : Nat} {f : Addr} {x qual : Str} {st : Stmt} {fd : FuncData} {N ps : List Str} {sp : Sp}
    (F : Fun K x qual st f fd) (S : FnScope N ps (defScope st)) (len : ∀ vs H Q E, sp vs H Q E → vs.length = ps.length)
    (body : ∀ (cdv : Value) (A : Around) (outer : List PySem.Env) (s : Shared) (H : Hp) (vs : List V) (Q : VK), A.guards = some [] → Room k (A.deeper (envOfC qual (defScope st) s.heap.objs.size f cdv)) → sp vs H Q E0 →
      ∃ t, PSs (cxOf CX0 P w K mg base N qual (defScope st) f cdv A outer s H E0).nox (defBody st) t ∧ t { nx := fun _ H' => Q .non H', rt := Q } (start N vs) H) :
    FnG P w K mg base (k + 1) f fd ps sp := by
  obtain ⟨oc, od, kV, doc, pm, an, cdv, ct, osl, rfl, lk, hcd⟩ := F.ex
  refine ⟨len, fun A outer s H args us vs Q hg hr e0 hb r hsp => ?_⟩
  have inK : K.In s.heap := e0.mod.kin.keeps fun b o e => (e0.bs b o e).1
  have noLim : s.heap.NoLimit := e0.mod.nolimit.keeps fun b o e => (e0.bs b o e).1
  have kinds : ∀ y ∈ ps.zip us, (defScope st).names.lookup y.1 = some .local ∨ ((defScope st).names.lookup y.1 = some .cell ∧ ((cellsFrom (s.heap.objs.size + 1) (defScope st).names []).lookup y.1).isSome = true) :=
    fun ⟨n, v⟩ hy => (S.par n (List.of_mem_zip hy).1).imp id fun q => ⟨q, PySem.W.cellsFrom_some _ _ _ (.inl q)⟩
  refine codeAny_call_function hr.depth (inK _ _ lk) rfl S.co S.gen rfl (PySem.W.codeRec_of inK hcd) (hb _ _ _ _ ?_)
  refine wpAny_newFunctionEnv_cells S.kind kinds fun env he s1 x' => ?_
  subst he
  refine ⟨noLim.keeps x'.toInCall.keep, codeAny_func ?_⟩
  obtain ⟨t, ht, hq⟩ := body cdv A outer s H vs Q hg (hr.deeper _) hsp
  have I := inv_start (CX := CX0) (mg := mg) (E := E0) S hr.hd e0 (len _ _ _ _ hsp) r x'
  refine wpAny_mono (ht.run [] s1 (start N vs) H _ (I.wish _) hq) (fun fl s' hs => ?_) fun e s' hs => hs.elim
  cases fl with
  | ret u =>
    obtain ⟨v, σ', H', J, rv, q⟩ := hs
    exact ⟨v, H', J.os, J.bare, J.base, J.hok, rv, q⟩
  | next =>
    obtain ⟨σ', H', J, q⟩ := hs
    exact ⟨.non, H', J.os, J.bare, J.base, J.hok, rfl, q⟩
  | brk => obtain ⟨_, _, _, q⟩ := hs; exact q.elim
  | cont => obtain ⟨_, _, _, q⟩ := hs; exact q.elim

section
variable {X : Cx} {k : Nat} {f : Addr} {fd : FuncData} {ps : List Str} {sp : Sp}
/-- the def runs -/
theorem run_g {pins : List (Addr × Obj)} {σ : Sl} {H : Hp} {s : Shared} {Q : VK} {us : List Value} {vs : List V} (F : FnG X.prog X.w X.K X.mg X.base k f fd ps sp) (hg : X.A.guards = some []) (hr : Room k X.A)
    (hb : ∀ us : List Value, us.length = ps.length → bindArgs fd ⟨us, []⟩ = pure (ps.zip us)) (I : Inv X pins σ H s) (r : Vals vs us) (h : sp vs H Q E0) :
    wpAny (model X.prog X.w) X.A (call (.ref f) us) (EP X pins σ Q) X.xe s := by
  have hl : us.length = ps.length := by rw [← r.length]; exact F.len _ _ _ _ h
  refine wpAny_call (codeAny_mono (F.run X.A X.stack s H ⟨us, []⟩ us vs Q hg hr I.env0 (.of_eq (hb us hl)) r h) fun z s' hq => ?_)
  match z, hq with
  | .ok (.ret u), hq => exact I.after hq
  | .ok .next, hq => exact hq.elim
  | .ok .brk, hq => exact hq.elim
  | .ok .cont, hq => exact hq.elim
  | .error _, hq => exact hq.elim
/-- .. called by keywords alone -/
theorem run_gk {pins : List (Addr × Obj)} {σ : Sl} {H : Hp} {s : Shared} {Q : VK} {ks : List Str} {ws us : List Value} {vs : List V} (F : FnG X.prog X.w X.K X.mg X.base k f fd ps sp) (hg : X.A.guards = some []) (hr : Room k X.A)
    (hb : bindArgs fd ⟨[], ks.zip ws⟩ = pure (ps.zip us)) (I : Inv X pins σ H s) (r : Vals vs us) (h : sp vs H Q E0) :
    wpAny (model X.prog X.w) X.A (call (.ref f) [] (ks.zip ws)) (EP X pins σ Q) X.xe s := by
  refine wpAny_call (codeAny_mono (F.run X.A X.stack s H ⟨[], ks.zip ws⟩ us vs Q hg hr I.env0 (.of_eq hb) r h) fun z s' hq => ?_)
  match z, hq with
  | .ok (.ret u), hq => exact I.after hq
  | .ok .next, hq => exact hq.elim
  | .ok .brk, hq => exact hq.elim
  | .ok .cont, hq => exact hq.elim
  | .error _, hq => exact hq.elim
end

/-! ### judgements weakened -/
theorem PE.to {X : Cx} {e : Expr} {t t' : TE} (h : PE X e t) (i : ∀ σ H Q, t' σ H Q → t σ H Q) : PE X e t' := ⟨fun pins s σ H Q I q => h.run pins s σ H Q I (i σ H Q q)⟩
theorem PT.to {X : Cx} {e : Expr} {t t' : TT} (h : PT X e t) (i : ∀ σ H Q, t' σ H Q → t σ H Q) : PT X e t' := ⟨fun pins s σ H Q I q => h.run pins s σ H Q I (i σ H Q q)⟩
theorem PW.to {X : Cx} {e : Expr} {t t' : TT} (h : PW X e t) (i : ∀ σ H Q, t' σ H Q → t σ H Q) : PW X e t' := ⟨fun wh pins s σ H Q I q => h.run wh pins s σ H Q I (i σ H Q q)⟩
theorem PA.to {X : Cx} {es : List Expr} {t t' : TA} (h : PA X es t) (i : ∀ σ H Q, t' σ H Q → t σ H Q) : PA X es t' := ⟨fun p pins s σ H Q I q => h.run p pins s σ H Q I (i σ H Q q)⟩
theorem PS.to {X : Cx} {e : Stmt} {t t' : TS} (h : PS X e t) (i : ∀ D σ H, t' D σ H → t D σ H) : PS X e t' := ⟨fun pins s σ H D I q => h.run pins s σ H D I (i D σ H q)⟩
theorem PSs.to {X : Cx} {e : List Stmt} {t t' : TS} (h : PSs X e t) (i : ∀ D σ H, t' D σ H → t D σ H) : PSs X e t' := ⟨fun pins s σ H D I q => h.run pins s σ H D I (i D σ H q)⟩
theorem PI.to {X : Cx} {tg e : Expr} {t t' : TI} (h : PI X tg e t) (i : ∀ σ H R, t' σ H R → t σ H R) : PI X tg e t' := ⟨fun pins s σ H Q I q => h.run pins s σ H Q I (i σ H Q q)⟩

/-! ### the calls -/
def notStar : Expr → Bool
  | .Starred .. => false
  | _ => true
theorem star_cons {e : Expr} {es : List Expr} {env : PySem.Env} (h : notStar e = true) : starEach (e :: es) env = (false, eval e env) :: starEach es env := by
  cases e <;> first | rfl | cases h
theorem plain_any {es : List Expr} {env : PySem.Env} {pos : Pos} (h : es.all notStar = true) : (PySem.backTo pos (starEach es env)).any (·.1) = false := by
  induction es with
  | nil => rfl
  | cons e es ih =>
    rw [List.all_cons, Bool.and_eq_true] at h
    rw [star_cons h.1]
    show (false || (PySem.backTo pos (starEach es env)).any (·.1)) = false
    rw [ih h.2]; rfl
/-- how a def stands in a context: its promise is C's answer -/
structure FnAt (X : Cx) (k : Nat) (C : Ctx) (i : Nat) (x : Str) (ps : List Str) (kws : List (List Str × List Nat)) : Prop where
  ex : ∃ (f : Addr) (fd : FuncData), X.mg x = some (.ref f) ∧ PySem.W.keepIn X.K (.ref f) = true ∧ FnG X.prog X.w X.K X.mg X.base k f fd ps (spF X.K ps.length (C.fn i)) ∧
    (∀ us : List Value, us.length = ps.length → bindArgs fd ⟨us, []⟩ = pure (ps.zip us)) ∧
    ∀ q ∈ kws, ∀ ws us : List Value, ws.length = q.1.length → pick ws q.2 = some us → bindArgs fd ⟨[], q.1.zip ws⟩ = pure (ps.zip us)
section
variable {X : Cx} {C : Ctx} {K : PySem.W.Frag} {Φ : Fm} {fx : List (Nat × V)} {H : Hp} {tm tm' : List Pr} {σ : Sl}
/-- the arguments handed over, the answer with what came back -/
theorem call_fin {n : Nat} {fn : List Val → Option (Val × List Val)} {ρ ρ0 : Env} {os : List Opv} {ys : List V} {xs : List Val} {w : Val} {ws : List Val} {Q : VK} (r : RS K Φ fx ρ (tm ++ tm') σ H) (o : OpRel σ os tm' ys)
    (h1 : takeAll os ρ = some (xs, ρ0)) (h2 : fn xs = some (w, ws)) (hn : ys.length = n) (hw : ws.length = xs.length)
    (k : ∀ y H', RS K Φ fx (putAll os xs ws ρ0) (tm ++ [(w, y)]) σ H' → Q y H') : spF K n fn ys H Q E0 := by
  obtain ⟨ps, p, g, fxs⟩ := r
  obtain ⟨l, ps0, A, p0, pp, hA, hf, hd, back⟩ := take_ok o h1 p
  -- A1: all lists handed over; R: all else
  have split : (tm'.filter isOw ++ tm'.filter fun q => !isOw q).Perm tm' := List.filter_append_perm isOw tm'
  have pall : ((A ++ tm'.filter isOw) ++ (ps0 ++ (tm ++ tm'.filter fun q => !isOw q))).Perm (ps ++ (tm ++ tm')) := by
    have h3 : ((A ++ ps0) ++ (tm ++ (tm'.filter isOw ++ tm'.filter fun q => !isOw q))).Perm (ps ++ (tm ++ tm')) := List.Perm.append pp.symm (.append_left tm split)
    refine List.Perm.trans ?_ h3
    have e1 : ((A ++ tm'.filter isOw) ++ (ps0 ++ (tm ++ tm'.filter fun q => !isOw q))) = A ++ (tm'.filter isOw ++ (ps0 ++ (tm ++ tm'.filter fun q => !isOw q))) := by simp only [List.append_assoc]
    have e2 : ((A ++ ps0) ++ (tm ++ (tm'.filter isOw ++ tm'.filter fun q => !isOw q))) = A ++ (ps0 ++ (tm ++ (tm'.filter isOw ++ tm'.filter fun q => !isOw q))) := by simp only [List.append_assoc]
    rw [e1, e2]
    refine .append_left A ?_
    -- move the middle part
    have e3 : tm'.filter isOw ++ (ps0 ++ (tm ++ tm'.filter fun q => !isOw q)) = (tm'.filter isOw ++ (ps0 ++ tm)) ++ tm'.filter fun q => !isOw q := by simp only [List.append_assoc]
    have e4 : ps0 ++ (tm ++ (tm'.filter isOw ++ tm'.filter fun q => !isOw q)) = ((ps0 ++ tm) ++ tm'.filter isOw) ++ tm'.filter fun q => !isOw q := by simp only [List.append_assoc]
    rw [e3, e4]
    exact .append_right _ List.perm_append_comm
  have g1 := g.perm pall
  have gin := call_in g1 hf fun q hq e => by
    rcases List.mem_append.mp (hd q hq e) with m | m
    · exact List.mem_append_left _ m
    · exact List.mem_append_right _ (List.mem_append_right _ (List.mem_filter.mpr ⟨m, by simp [e]⟩))
  refine ⟨hn, xs, _, w, ws, h2, l, hw, gin, fun y H' g' => k y H' ?_⟩
  obtain ⟨ps2, A2, q1, q2, zs, q3⟩ := back ws hw (fun _ e => e) p0
  have gout := call_out (A' := A2 ++ [(w, y)]) g1 g' (.inr ⟨zs, by
    have : ((A2 ++ [(w, y)]) ++ zs).Perm ((A2 ++ zs) ++ [(w, y)]) := by
      rw [List.append_assoc, List.append_assoc]
      exact .append_left A2 List.perm_append_comm
    exact this.trans (.append_right _ q3)⟩)
  refine ⟨ps2, q1, gout.less (zs := tm'.filter fun q => !isOw q) ?_, fxs⟩
  have h5 : ((ps2 ++ (tm ++ [(w, y)])) ++ tm'.filter fun q => !isOw q).Perm (((A2 ++ ps0) ++ (tm ++ [(w, y)])) ++ tm'.filter fun q => !isOw q) := .append_right _ (.append_right _ q2)
  refine h5.trans ?_
  have e1 : (((A2 ++ ps0) ++ (tm ++ [(w, y)])) ++ tm'.filter fun q => !isOw q) = A2 ++ ((ps0 ++ tm) ++ ([(w, y)] ++ tm'.filter fun q => !isOw q)) := by simp only [List.append_assoc]
  have e2 : ((A2 ++ [(w, y)]) ++ (ps0 ++ (tm ++ tm'.filter fun q => !isOw q))) = A2 ++ ([(w, y)] ++ ((ps0 ++ tm) ++ tm'.filter fun q => !isOw q)) := by simp only [List.append_assoc]
  rw [e1, e2]
  refine .append_left A2 ?_
  have e3 : (ps0 ++ tm) ++ ([(w, y)] ++ tm'.filter fun q => !isOw q) = ((ps0 ++ tm) ++ [(w, y)]) ++ tm'.filter fun q => !isOw q := by simp only [List.append_assoc]
  have e4 : [(w, y)] ++ ((ps0 ++ tm) ++ tm'.filter fun q => !isOw q) = ([(w, y)] ++ (ps0 ++ tm)) ++ tm'.filter fun q => !isOw q := by simp only [List.append_assoc]
  rw [e3, e4]
  exact .append_right _ List.perm_append_comm
end
end Eng
set_option Elab.async false
set_option linter.all false
set_option maxRecDepth 100000
set_option maxHeartbeats 4000000
/-! Eng10: the own language beside the syntax: operations. -/
namespace Eng
open PySem PySem.Spec PyProof.Rows L2 StX

/-! ### looks -/
def kindIs (sc : Scope) (x : Str) (k : NameKind) : Bool := decide (sc.names.lookup x = some k)
def visB (sc : Scope) (x : Str) : Bool := kindIs sc x .local || kindIs sc x .cell || kindIs sc x .free
def okName (x : Str) : Bool := !(x == ("__debug__" : Str)) && !(x == ("__classdict__" : Str))
def constIs : MK → Const → Bool
  | .non, .none => true
  | .bl a, .bool b => a == b
  | .int i, .int j => i == j
  | .str x, .str y => decide (x = y)
  | _, _ => false
def notSlice : Expr → Bool
  | .Slice .. => false
  | _ => true
def notSet : Expr → Bool
  | .Set .. => false
  | _ => true
/-- the built-in that a call names -/
def blOf : Prim → Option (Str × Bool × String)
  | .len => some ("len", false, "len")
  | .abs => some ("abs", false, "abs")
  | .int => some ("int", true, "int")
  | .tuple => some ("tuple", true, "tuple")
  | .list => some ("list", true, "list")
  | .all => some ("all", false, "all")
  | .any => some ("any", false, "any")
  | .sum => some ("sum", false, "sum")
  | .maxL => some ("max", false, "max")
  | .minL => some ("min", false, "min")
  | .max2 => some ("max", false, "max")
  | .min2 => some ("min", false, "min")
  | .divmod => some ("divmod", false, "divmod")
  | .repr => some ("repr", false, "repr")
  | _ => none
def blNames : List Str := ["len", "abs", "int", "tuple", "list", "all", "any", "sum", "max", "min", "divmod", "repr", "isinstance", "range", "zip", "enumerate", "bool", "str", "dict", "sorted"]
def binOf : Prim → Option Operator
  | .add => some .Add
  | .sub => some .Sub
  | .mul => some .Mult
  | .fdiv => some .FloorDiv
  | .mod => some .Mod
  | .pow => some .Pow
  | _ => none
def cmpOf : Prim → Option CmpOp
  | .eq => some .Eq
  | .ne => some .NotEq
  | .lt => some .Lt
  | .le => some .LtE
  | .gt => some .Gt
  | .ge => some .GtE
  | .isin => some .In
  | .notin => some .NotIn
  | _ => none
def tyStr (x : Str) : Option String := (isNames.find? fun n => decide (Str.ofString n = x))
/-- the operands of an operation, where the expression has its form -/
def shape (sc : Scope) (p : Prim) : Expr → Option (List Expr)
  | .BinOp a op b _ => if binOf p = some op then some [a, b] else none
  | .UnaryOp .USub a _ => if p = .neg then some [a] else none
  | .Compare a [op] [b] _ => if cmpOf p = some op then (if notSet b then some [a, b] else none) else (match op, b with
    | .Is, .Constant .none _ _ => if p = .isNone then some [a] else none
    | .IsNot, .Constant .none _ _ => if p = .notNone then some [a] else none
    | _, _ => none)
  | .Subscript a b _ => (match b with
    | .Slice none none none _ => if p = .sl false false then some [a] else none
    | .Slice (some l) none none _ => if p = .sl true false then some [a, l] else none
    | .Slice none (some h) none _ => if p = .sl false true then some [a, h] else none
    | .Slice none none (some (.UnaryOp .USub (.Constant (.int 1) _ _) _)) _ => if p = .rev then some [a] else none
    | b => if p = .idx && notSlice b then some [a, b] else none)
  | .Call (.Name x _) es ks _ => if ks.isEmpty && kindIs sc x .globalImplicit then (match p with
    | .isa [T] => (match es with
      | [a, .Name t _] => if x = ("isinstance" : Str) ∧ tyStr t = some T ∧ kindIs sc t .globalImplicit = true then some [a] else none
      | _ => none)
    | .gcd => if x = ("gcd" : Str) then (match es with
      | [a, b] => some [a, b]
      | _ => none) else none
    | p => (match blOf p with
      | some (y, _, _) => if x = y ∧ es ≠ [] then some es else none
      | none => none)) else none
  | _ => none

/-! ### the context -/
structure Sg where
  fs : List (Str × List Str × List (List Str × List Nat))
  gs : List Str
structure XG (S : Sg) (N : List Str) (C : Ctx) (k : Nat) (sc : Scope) (X : Cx) : Prop where
  hN : X.N = N
  hsc : X.env.scope = sc
  calm : X.calm = true
  nd : X.N.Nodup
  guards : X.A.guards = some []
  room : Room k X.A
  bl : ∀ x ∈ blNames, X.mg x = none
  gcd : ("gcd" : Str) ∈ S.gs → X.mg "gcd" = some (.builtin "math.gcd")
  gl : ∀ (i : Nat) (x : Str) (t : D), S.gs[i]? = some x → C.gl i = some t → ∃ (u : Value) (v : V), X.mg x = some u ∧ RelV v u ∧ ∀ F, At X.K F v t
  fn : ∀ (i : Nat) (x : Str) (ps : List Str) (kws : List (List Str × List Nat)), S.fs[i]? = some (x, ps, kws) → FnAt X k C i x ps kws
theorem XG.units {S : Sg} {N : List Str} {C : Ctx} {k : Nat} {sc : Scope} {X : Cx} (g : XG S N C k sc X) : X.A.units + 199 < cLine := by
  have := g.room.un
  omega
theorem XG.gname {S : Sg} {N : List Str} {C : Ctx} {k : Nat} {sc : Scope} {X : Cx} (g : XG S N C k sc X) {x : Str} (h : kindIs sc x .globalImplicit = true) : Gl X x := by
  have := of_decide_eq_true h
  show X.env.scope.names.lookup x = _
  rw [g.hsc]
  exact this

/-- operands beside their expressions -/
inductive AllO (X : Cx) (C : Ctx) (Φ : Fm) (fx : List (Nat × V)) : MEs → List Expr → Prop
  | nil : AllO X C Φ fx .nil []
  | cons {m : ME} {r : MEs} {e : Expr} {es : List Expr} : notStar e = true → PE X e (tO X.K C Φ fx m) → AllO X C Φ fx r es → AllO X C Φ fx (.cons m r) (e :: es)
section
variable {X : Cx} {C : Ctx} {Φ : Fm} {fx : List (Nat × V)}
theorem AllO.pa : ∀ {ms : MEs} {es : List Expr}, AllO X C Φ fx ms es → PA X es (tOs X.K C Φ fx ms) ∧ es.all notStar = true
  | _, _, .nil => ⟨pa_nil, rfl⟩
  | _, _, .cons n h r => by
    obtain ⟨h1, h2⟩ := r.pa
    exact ⟨pa_cons h h1 (star_cons n), by rw [List.all_cons, n, h2]; rfl⟩
/-- the operation's answer, from its operands -/
theorem prim_run {K : PySem.W.Frag} {p : Prim} {ms : MEs} {σ : Sl} {H : Hp} {Q : VK} (h : tD K C Φ fx (.prim p ms) σ H Q) : tOs K C Φ fx ms σ H fun ys H' => rP K p ys H' Q := by
  obtain ⟨ρ, tm, v, ρ', hd, r, k⟩ := h
  unfold den at hd
  obtain ⟨w, h1, hd⟩ := Option.bind_eq_some_iff.mp hd
  obtain ⟨xs, h2, hd⟩ := Option.bind_eq_some_iff.mp hd
  obtain ⟨u, h3, hd⟩ := Option.map_eq_some_iff.mp hd
  cases hd
  exact os_run ms h1 r fun ys tm' H' r' o => op_fin r' o h2 h3 k
theorem tO_mono {K : PySem.W.Frag} : ∀ {m : ME} {σ : Sl} {H : Hp} {R R' : V → Hp → Prop}, tO K C Φ fx m σ H R → (∀ x H1, R x H1 → R' x H1) → tO K C Φ fx m σ H R' := by
  intro m σ H R R' h i
  cases m with
  | var j =>
    obtain ⟨y, hy, q⟩ := h
    exact ⟨y, hy, i _ _ q⟩
  | _ =>
    obtain ⟨ρ, tm, v, ρ', hd, r, k⟩ := h
    exact ⟨ρ, tm, v, ρ', hd, r, fun y H' r' => i _ _ (k y H' r')⟩
theorem noneD {K : PySem.W.Frag} {Φ : Fm} {H : Hp} {qs : List Pr} (g : Good K Φ H qs) {a : Val} {x : V} (ma : (a, x) ∈ qs) : isNoneD a.dat = decide (x = V.non) := by
  cases a with
  | own ts =>
    obtain ⟨b, us, rfl, _, _⟩ := g.seqL ma rfl
    rfl
  | d t =>
    have q := g.atD ma
    cases q <;> rfl
variable {S : Sg} {N : List Str} {k : Nat} {sc : Scope}
theorem bl_mem {p : Prim} {x : Str} {b : Bool} {id : String} (h : blOf p = some (x, b, id)) : x ∈ blNames ∧ x ≠ ("__name__" : Str) ∧ (x == ("__debug__" : Str)) = false ∧ bootBuiltins x = some (if b then .type id else .builtin id) := by
  cases p <;> simp only [blOf, Option.some.injEq, Prod.mk.injEq, reduceCtorEq] at h <;>
    (obtain ⟨rfl, rfl, rfl⟩ := h; exact ⟨by decide +kernel, by decide +kernel, by decide +kernel, by decide +kernel⟩)
/-- a call of a built-in -/
theorem call_bl (g : XG S N C k sc X) {p : Prim} {x : Str} {b : Bool} {id : String} (hb : blOf p = some (x, b, id)) (hx : kindIs sc x .globalImplicit = true) {ms : MEs} {es : List Expr} {pp pos : Pos} (ne : es ≠ [])
    (o : AllO X C Φ fx ms es) (cr : CallR X (if b then .type id else .builtin id) fun ys H Q => rP X.K p ys H Q) : PE X (.Call (.Name x pp) es [] pos) (tD X.K C Φ fx (.prim p ms)) := by
  obtain ⟨m1, m2, m3, m4⟩ := bl_mem hb
  obtain ⟨pa, st⟩ := o.pa
  match es, ne with
  | e :: es, _ =>
    rw [List.all_cons, Bool.and_eq_true] at st
    cases b with
    | true => exact PE.to (pe_callTy cr (g.gname hx) (g.bl x m1) m4 pa m2 m3 (star_cons st.1) (plain_any st.2)) fun σ H Q h => prim_run h
    | false => exact PE.to (pe_callB cr (g.gname hx) (g.bl x m1) m4 pa m2 m3 (star_cons st.1) (plain_any st.2)) fun σ H Q h => prim_run h
theorem plainIx_of {b : Expr} (h : notSlice b = true) : L2.PlainIx b := by
  intro o i
  cases b <;> first | rfl | cases h
theorem inMarks {b : Expr} {op : CmpOp} (h : notSet b = true) : behindInMarks op b = false := by
  cases b <;> first | rfl | cases h
/-- an operand of a slice -/
theorem po_of {m : ME} {l : Expr} (h : PE X l (tO X.K C Φ fx m)) : PO X (some l) (tPart (tO X.K C Φ fx m)) := po_some h
theorem prim_ok (g : XG S N C k sc X) {p : Prim} {e : Expr} {es : List Expr} {ms : MEs} (hgc : p = .gcd → ("gcd" : Str) ∈ S.gs) (hs : shape sc p e = some es) (o : AllO X C Φ fx ms es) : PE X e (tD X.K C Φ fx (.prim p ms)) := by
  have hu := g.units
  unfold shape at hs
  split at hs
  · -- a op b
    rename_i a op b pos
    split at hs
    · rename_i hb
      cases hs
      cases o with
      | cons n1 h1 o =>
        cases o with
        | cons n2 h2 o =>
          cases o
          cases p <;> simp only [binOf, Option.some.injEq, reduceCtorEq] at hb <;> subst hb
          · exact PE.to (pe_op or_add h1 h2) fun σ H Q h => prim_run h
          · exact PE.to (pe_op or_sub h1 h2) fun σ H Q h => prim_run h
          · exact PE.to (pe_op or_mul h1 h2) fun σ H Q h => prim_run h
          · exact PE.to (pe_op or_fdiv h1 h2) fun σ H Q h => prim_run h
          · exact PE.to (pe_op or_mod h1 h2) fun σ H Q h => prim_run h
          · exact PE.to (pe_op or_pow h1 h2) fun σ H Q h => prim_run h
    · cases hs
  · -- - a
    rename_i a pos
    split at hs
    · rename_i hb
      subst hb
      cases hs
      cases o with
      | cons n1 h1 o =>
        cases o
        exact PE.to (pe_un ur_neg h1) fun σ H Q h => prim_run h
    · cases hs
  · rename_i a op b pos
    split at hs
    · rename_i hb
      split at hs
      · rename_i hn
        cases hs
        cases o with
        | cons n1 h1 o =>
          cases o with
          | cons n2 h2 o =>
            cases o
            cases p <;> simp only [cmpOf, Option.some.injEq, reduceCtorEq] at hb <;> subst hb
            · exact PE.to (pe_cmpR (or_eq (by omega)) h1 h2 (inMarks hn)) fun σ H Q h => prim_run h
            · exact PE.to (pe_cmpR (or_ne (by omega)) h1 h2 (inMarks hn)) fun σ H Q h => prim_run h
            · exact PE.to (pe_cmpR or_lt h1 h2 (inMarks hn)) fun σ H Q h => prim_run h
            · exact PE.to (pe_cmpR or_le h1 h2 (inMarks hn)) fun σ H Q h => prim_run h
            · exact PE.to (pe_cmpR or_gt h1 h2 (inMarks hn)) fun σ H Q h => prim_run h
            · exact PE.to (pe_cmpR or_ge h1 h2 (inMarks hn)) fun σ H Q h => prim_run h
            · exact PE.to (pe_cmpR (or_in (by omega)) h1 h2 (inMarks hn)) fun σ H Q h => prim_run h
            · exact PE.to (pe_cmpR (or_notin (by omega)) h1 h2 (inMarks hn)) fun σ H Q h => prim_run h
      · cases hs
    · split at hs
      · split at hs
        · rename_i hb
          subst hb
          cases hs
          cases o with
          | cons n1 h1 o =>
            cases o
            refine PE.to (pe_cmp (pc_isN h1) rfl) fun σ H Q h => tO_mono (prim_run h) fun x H1 q => ?_
            obtain ⟨a, Φ, qs, v, g, ma, hp, k⟩ := q.one
            rw [← noneD g ma]
            exact kB g hp k
        · cases hs
      · split at hs
        · rename_i hb
          subst hb
          cases hs
          cases o with
          | cons n1 h1 o =>
            cases o
            refine PE.to (pe_cmp (pc_notN h1) rfl) fun σ H Q h => tO_mono (prim_run h) fun x H1 q => ?_
            obtain ⟨a, Φ, qs, v, g, ma, hp, k⟩ := q.one
            rw [← noneD g ma]
            exact kB g hp k
        · cases hs
      · cases hs
  · -- items and slices
    rename_i a b pos
    have part : ∀ {m : ME} {σ : Sl} {H : Hp} {R : V → Hp → Prop} {R' : Option Int → Hp → Prop}, tO X.K C Φ fx m σ H R → (∀ x H1, R x H1 → ∃ i, x = .int i ∧ R' (some i) H1) → tPart (tO X.K C Φ fx m) σ H R' := fun h1 h2 => tO_mono h1 h2
    split at hs
    · split at hs
      · rename_i hb
        subst hb
        cases hs
        cases o with
        | cons n1 h1 o =>
          cases o
          refine PE.to (pe_slice sr_sl h1 po_none po_none) fun σ H Q h => tO_mono (prim_run h) fun x H1 q => ?_
          obtain ⟨a, Φ, qs, v, g, ma, hp, k⟩ := q.one
          exact ⟨a, Φ, qs, v, g, ma, hp, k⟩
      · cases hs
    · split at hs
      · rename_i hb
        subst hb
        cases hs
        cases o with
        | cons n1 h1 o =>
          cases o with
          | cons n2 h2 o =>
            cases o
            refine PE.to (pe_slice sr_sl h1 (po_of h2) po_none) fun σ H Q h => tO_mono (prim_run h) fun x H1 q => part q fun y H2 q => ?_
            obtain ⟨a, b, Φ, qs, v, g, ma, mb, hp, k⟩ := rP.two q
            simp only [prim] at hp
            split at hp
            · rename_i i ei
              exact ⟨i, g.int mb ei, a, Φ, qs, v, g, ma, hp, k⟩
            · cases hp
      · cases hs
    · split at hs
      · rename_i hb
        subst hb
        cases hs
        cases o with
        | cons n1 h1 o =>
          cases o with
          | cons n2 h2 o =>
            cases o
            refine PE.to (pe_slice sr_sl h1 po_none (po_of h2)) fun σ H Q h => tO_mono (prim_run h) fun x H1 q => ?_
            show tPart (tO X.K C Φ fx _) σ H1 fun u H3 => rSl X.K x none u H3 Q
            refine part q fun y H2 q => ?_
            obtain ⟨a, b, Φ, qs, v, g, ma, mb, hp, k⟩ := rP.two q
            simp only [prim] at hp
            split at hp
            · rename_i i ei
              exact ⟨i, g.int mb ei, a, Φ, qs, v, g, ma, hp, k⟩
            · cases hp
      · cases hs
    · split at hs
      · rename_i hb
        subst hb
        cases hs
        cases o with
        | cons n1 h1 o =>
          cases o
          exact PE.to (pe_rv h1) fun σ H Q h => prim_run h
      · cases hs
    · split at hs
      · rename_i hb
        rw [Bool.and_eq_true, decide_eq_true_eq] at hb
        obtain ⟨rfl, hb⟩ := hb
        cases hs
        cases o with
        | cons n1 h1 o =>
          cases o with
          | cons n2 h2 o =>
            cases o
            exact PE.to (pe_ix ir_idx h1 h2 (plainIx_of hb)) fun σ H Q h => prim_run h
      · cases hs
  · -- calls of built-ins
    rename_i x pp args ks pos
    split at hs
    · rename_i hc
      rw [Bool.and_eq_true] at hc
      obtain ⟨hk, hx⟩ := hc
      have ks0 : ks = [] := List.isEmpty_iff.mp hk
      subst ks0
      split at hs
      · rename_i T
        split at hs
        · rename_i a t pt
          split at hs
          · rename_i hh
            obtain ⟨rfl, hT, ht⟩ := hh
            cases hs
            cases o with
            | cons n1 h1 o =>
              cases o
              have hT2 : T ∈ isNames ∧ Str.ofString T = t := by
                have := List.find?_some hT
                exact ⟨List.mem_of_find?_eq_some hT, of_decide_eq_true this⟩
              obtain ⟨hm, rfl⟩ := hT2
              have tyok : ∀ T ∈ isNames, (Str.ofString T ∈ blNames) ∧ Str.ofString T ≠ ("__name__" : Str) ∧ (Str.ofString T == ("__debug__" : Str)) = false ∧ bootBuiltins (Str.ofString T) = some (.type T) := by decide +kernel
              obtain ⟨t1, t2, t3, t4⟩ := tyok T hm
              have pe : PE X (.Name (Str.ofString T) pt) (tC (.ty T)) := pe_bltn (g.gname ht) (g.bl _ t1) t4 rfl t2 t3
              refine PE.to (pe_callB (cr_isa hm) (g.gname hx) (g.bl _ (by decide +kernel)) (by decide +kernel) (pa_cons h1 (pa_cons pe pa_nil rfl) (star_cons n1)) (by decide +kernel) (by decide +kernel) (star_cons n1) rfl) fun σ H Q h => ?_
              exact tO_mono (prim_run h) fun y H1 q => ⟨y, rfl, q⟩
          · cases hs
        · cases hs
      · split at hs
        · rename_i hh
          subst hh
          split at hs
          · cases hs
            cases o with
            | cons n1 h1 o =>
              cases o with
              | cons n2 h2 o =>
                cases o
                exact PE.to (pe_callBfun cr_gcdP (g.gname hx) (g.gcd (hgc rfl)) (pa_cons h1 (pa_cons h2 pa_nil (star_cons n2)) (star_cons n1)) (by decide +kernel) (star_cons n1) (plain_any (by rw [List.all_cons, n2]; rfl))) fun σ H Q h => prim_run h
          · cases hs
        · cases hs
      · rename_i np1 np2
        split at hs
        · rename_i y b id hb
          split at hs
          · rename_i hh
            obtain ⟨rfl, ne⟩ := hh
            cases hs
            refine call_bl g hb hx ne o ?_
            have hc := g.calm
            have hgd := g.guards
            cases p <;> simp only [blOf, Option.some.injEq, Prod.mk.injEq, reduceCtorEq] at hb <;> obtain ⟨rfl, rfl, rfl⟩ := hb
            · exact cr_len
            · exact cr_abs
            · exact cr_int
            · exact cr_tuple
            · exact cr_list
            · exact cr_allP hc
            · exact cr_anyP hc
            · exact cr_sumP hc
            · exact cr_maxL hc (by omega)
            · exact cr_minL hc (by omega)
            · exact cr_max2 hc
            · exact cr_min2 hc
            · exact cr_divmod
            · exact cr_repr hgd (by omega)
          · cases hs
        · cases hs
    · cases hs
  · cases hs
end
end Eng
set_option Elab.async false
set_option linter.all false
set_option maxRecDepth 100000
set_option maxHeartbeats 4000000
/-! Eng11: targets, what is walked, comprehensions' turns. -/
namespace Eng
open PySem PySem.Spec PyProof.Rows L2 StX

/-! ### targets -/
mutual
def tSlots : MT → List Nat
  | .nm i => [i]
  | .ixc _ _ => []
  | .tp ts => tSlotss ts
def tSlotss : List MT → List Nat
  | [] => []
  | t :: ts => tSlots t ++ tSlotss ts
end
mutual
def chkT (N : List Str) (sc : Scope) (ok : Str → Bool) : MT → Expr → Bool
  | .nm i, e => (match e with
    | .Name x _ => decide (N[i]? = some x) && ok x
    | _ => false)
  | .ixc i k, e => (match e with
    | .Subscript (.Name x _) (.Constant (.int j) _ _) _ => decide (N[i]? = some x) && visB sc x && okName x && decide (j = k)
    | _ => false)
  | .tp ts, e => (match e with
    | .Tuple es _ _ => chkTs N sc ok ts es
    | _ => false)
def chkTs (N : List Str) (sc : Scope) (ok : Str → Bool) : List MT → List Expr → Bool
  | [], [] => true
  | t :: ts, e :: es => chkT N sc ok t e && chkTs N sc ok ts es
  | _, _ => false
end
section
variable {K : PySem.W.Frag} {Φ : Fm} {fx : List (Nat × V)} {H : Hp} {tm : List Pr} {ρ : Env} {σ : Sl}
/-- slots outside sl are as they were -/
def Apart (sl : List Nat) (σ σ' : Sl) : Prop := σ'.length = σ.length ∧ ∀ i, i ∉ sl → σ'[i]? = σ[i]?
theorem Apart.refl (sl : List Nat) (σ : Sl) : Apart sl σ σ := ⟨rfl, fun _ _ => rfl⟩
theorem Apart.trans {sl : List Nat} {σ σ' σ'' : Sl} (a : Apart sl σ σ') (b : Apart sl σ' σ'') : Apart sl σ σ'' := ⟨b.1.trans a.1, fun i h => (b.2 i h).trans (a.2 i h)⟩
theorem Apart.more {sl sl' : List Nat} {σ σ' : Sl} (a : Apart sl σ σ') (h : ∀ i ∈ sl, i ∈ sl') : Apart sl' σ σ' := ⟨a.1, fun i n => a.2 i fun m => n (h i m)⟩
theorem wipe_get {σ : Sl} : ∀ {vs : List Nat} {i : Nat}, (wipe σ vs)[i]? = if i ∈ vs then (if i < σ.length then some none else none) else σ[i]?
  | [], i => by simp [wipe]
  | v :: vs, i => by
    unfold wipe
    by_cases h : v = i
    · subst h
      rw [if_pos List.mem_cons_self]
      by_cases hl : v < σ.length
      · rw [List.getElem?_set_self (by rw [wipe_length]; exact hl), if_pos hl]
      · rw [List.getElem?_eq_none (by rw [List.length_set, wipe_length]; omega), if_neg hl]
    · rw [List.getElem?_set_ne h, wipe_get]
      by_cases m : i ∈ vs
      · rw [if_pos m, if_pos (List.mem_cons_of_mem _ m)]
      · rw [if_neg m, if_neg (by simp [m]; exact fun z => h z.symm)]
theorem Apart.wipe {vs : List Nat} {σ σ' : Sl} (a : Apart vs σ σ') : L2.wipe σ' vs = L2.wipe σ vs := by
  apply List.ext_getElem?
  intro i
  rw [wipe_get, wipe_get, a.1]
  by_cases m : i ∈ vs
  · rw [if_pos m, if_pos m]
  · rw [if_neg m, if_neg m]; exact a.2 i m
theorem Apart.wiped (vs : List Nat) (σ : Sl) : Apart vs σ (L2.wipe σ vs) := ⟨wipe_length _ _, fun i h => by rw [wipe_get, if_neg h]⟩

def tG (K : PySem.W.Frag) (Φ : Fm) (fx : List (Nat × V)) (t : MT) : TG := fun v σ H Q =>
  ∃ (ρ : Env) (tm : List Pr) (x : D) (ρ' : Env), bindT t x ρ = some ρ' ∧ RS K Φ fx ρ (tm ++ [(.d x, v)]) σ H ∧ ∀ σ' H', RS K Φ fx ρ' tm σ' H' → Apart (tSlots t) σ σ' → Q σ' H'
def tGs (K : PySem.W.Frag) (Φ : Fm) (fx : List (Nat × V)) (ts : List MT) : TGs := fun vs σ H Q =>
  ∃ (ρ : Env) (tm : List Pr) (xs : List D) (ρ' : Env), bindTs ts xs ρ = some ρ' ∧ vs.length = xs.length ∧ RS K Φ fx ρ (tm ++ (xs.map Val.d).zip vs) σ H ∧ ∀ σ' H', RS K Φ fx ρ' tm σ' H' → Apart (tSlotss ts) σ σ' → Q σ' H'
/-- a slot takes the thing in hand -/
theorem RS.set {x : Val} {v : V} {i : Nat} {ρ' : Env} (r : RS K Φ fx ρ (tm ++ [(x, v)]) σ H) (h : setS ρ i x = some ρ') (nf : ∀ p ∈ fx, p.1 ≠ i) : RS K Φ fx ρ' tm (σ.set i (some v)) H := by
  unfold setS at h
  split at h
  · rename_i hi
    cases h
    obtain ⟨ps, p, g, f⟩ := r
    obtain ⟨ps', zs, p', pp⟩ := p.set x v hi
    refine ⟨ps', p', g.less (zs := zs) ?_, fun q hq => by rw [List.getElem?_set_ne (nf q hq).symm]; exact f q hq⟩
    have e1 : (ps' ++ tm ++ zs).Perm ((ps' ++ zs) ++ tm) := by
      rw [List.append_assoc, List.append_assoc]
      exact .append_left _ List.perm_append_comm
    refine e1.trans ((List.Perm.append_right tm pp).trans ?_)
    have e2 : (ps ++ (tm ++ [(x, v)])).Perm ((x, v) :: (ps ++ tm)) := by
      rw [← List.append_assoc]
      exact List.perm_append_comm
    exact e2.symm
  · cases h
theorem apart_set (σ : Sl) (i : Nat) (v : Option V) : Apart [i] σ (σ.set i v) := ⟨List.length_set, fun j h => List.getElem?_set_ne (fun z => h (by simp [z]))⟩
/-- an owned list in a slot is changed in place -/
theorem RS.chg {i : Nat} {xs xs' : List D} {ρ' : Env} {ts : List Pr} (r : RS K Φ fx ρ (tm ++ ts) σ H) (hs : slotV ρ i = some (.own xs)) (h : setS ρ i (.own xs') = some ρ') :
    ∃ a vs, σ[i]? = some (some (.ref a)) ∧ H a = some (.lst vs) ∧ vs.length = xs.length ∧
      ∀ vs', (∀ F, (∀ {v t}, (Val.d t, v) ∈ ts → At K F v t) → AtAll K F vs xs → AtAll K F vs' xs') → RS K Φ fx ρ' tm σ (upd H a (.lst vs')) := by
  unfold setS at h
  split at h
  · cases h
    obtain ⟨ps, p, g, f⟩ := r
    obtain ⟨y, as, bs, rfl, e1, e2⟩ := p.change (slotV_some hs)
    have m : (Val.own xs, y) ∈ (as ++ (Val.own xs, y) :: bs) ++ (tm ++ ts) := by simp
    obtain ⟨a, vs, rfl, ha, hv⟩ := (g.rv _ m).ofOwn
    refine ⟨a, vs, e1, ha, hv.length, fun vs' hh => ⟨_, e2 (.own xs'), ?_, f⟩⟩
    have g1 : Good K Φ H (as ++ (Val.own xs, V.ref a) :: (bs ++ (tm ++ ts))) := by
      have := g
      rwa [List.append_assoc, List.cons_append] at this
    have g2 := g1.change (xs' := xs') (vs' := vs') (hh _ (fun {v t} hm => g1.atD (by simp [hm])) (by
      have := (g1.rv (Val.own xs, V.ref a) (by simp)).ofOwn
      obtain ⟨b, ws, e, hb, hw⟩ := this
      cases e
      rw [ha] at hb
      cases hb
      exact hw))
    refine g2.less (zs := ts) ?_
    simp only [List.append_assoc, List.cons_append]
    exact .refl _
  · cases h
end
section
variable {X : Cx} {Φ : Fm} {fx : List (Nat × V)} {N : List Str} {sc : Scope} {ok : Str → Bool}
theorem vis_of {x : Str} (h : visB sc x = true) : Vis sc x := by
  unfold visB kindIs at h
  simp only [Bool.or_eq_true, decide_eq_true_eq] at h
  exact h.elim (fun h => h.elim .inl fun h => .inr (.inl h)) fun h => .inr (.inr h)
theorem okName_of {x : Str} (h : okName x = true) : (x == ("__debug__" : Str)) = false ∧ (x == ("__classdict__" : Str)) = false := by
  unfold okName at h
  simp only [Bool.and_eq_true, Bool.not_eq_true'] at h
  exact h
theorem notStarT {ts : List MT} {es : List Expr} (h : chkTs N sc ok ts es = true) : ∀ e ∈ es, notStar e = true := by
  induction es generalizing ts with
  | nil => intro e he; cases he
  | cons e es ih =>
    cases ts with
    | nil => simp [chkTs] at h
    | cons t ts =>
      simp only [chkTs, Bool.and_eq_true] at h
      intro e' he
      rcases List.mem_cons.mp he with rfl | he
      · cases t <;> cases e' <;> simp [chkT] at h <;> rfl
      · exact ih h.2 e' he
theorem assignEach_cons {e : Expr} {es : List Expr} {env : PySem.Env} (h : notStar e = true) : assignEach (e :: es) env = (false, assign e env) :: assignEach es env := by
  cases e <;> first | rfl | cases h
theorem assign_len {es : List Expr} {env : PySem.Env} : (assignEach es env).length = es.length := by
  induction es with
  | nil => rfl
  | cons e es ih =>
    cases e <;> (show (_ :: assignEach es env).length = _; rw [List.length_cons, ih]; rfl)
theorem assign_find {es : List Expr} {env : PySem.Env} (h : ∀ e ∈ es, notStar e = true) : (assignEach es env).findIdx? (·.1) = none := by
  induction es with
  | nil => rfl
  | cons e es ih =>
    rw [assignEach_cons (h e List.mem_cons_self), List.findIdx?_cons]
    simp only [Bool.false_eq_true, if_false]
    rw [ih fun e' he => h e' (List.mem_cons_of_mem _ he)]
    rfl
theorem chkTs_len {ts : List MT} {es : List Expr} (h : chkTs N sc ok ts es = true) : ts.length = es.length := by
  induction es generalizing ts with
  | nil =>
    cases ts with
    | nil => rfl
    | cons _ _ => simp [chkTs] at h
  | cons e es ih =>
    cases ts with
    | nil => simp [chkTs] at h
    | cons t ts =>
      simp only [chkTs, Bool.and_eq_true] at h
      simp [ih h.2]
theorem bindTs_len : ∀ {ts : List MT} {xs : List D} {ρ ρ' : Env}, bindTs ts xs ρ = some ρ' → ts.length = xs.length
  | [], [], _, _, _ => rfl
  | t :: ts, x :: xs, ρ, ρ', h => by
    unfold bindTs at h
    obtain ⟨ρ1, _, h2⟩ := Option.bind_eq_some_iff.mp h
    simp [bindTs_len h2]
  | [], _ :: _, _, _, h => by simp [bindTs] at h
  | _ :: _, [], _, _, h => by simp [bindTs] at h
mutual
theorem pg_ok (hN : X.N = N) (hsc : X.env.scope = sc) (nd : X.N.Nodup) (hc : X.calm = true) (hok : ∀ x, ok x = true → Loc X.env.scope x ∧ (X.fn x = true ∨ X.env.scope.names.lookup x = some .local)) :
    ∀ (t : MT) (e : Expr), chkT N sc ok t e = true → (∀ p ∈ fx, p.1 ∉ tSlots t) → PG X e (tG X.K Φ fx t)
  | .nm i, e, h, nf => by
    unfold chkT at h
    split at h
    · rename_i x pos
      rw [Bool.and_eq_true, decide_eq_true_eq] at h
      obtain ⟨h1, h2⟩ := hok _ h.2
      refine ⟨fun pins s σ H v u Q I r hw => ?_⟩
      obtain ⟨ρ, tm, y, ρ', hb, rs, k⟩ := hw
      refine (pg_name (i := i) nd (by rw [hN]; exact h.1) h1 h2).run pins s σ H v u Q I r ?_
      exact k _ _ (rs.set hb fun p hp z => nf p hp (by simp [tSlots, z])) (apart_set σ i _)
    · cases h
  | .ixc i kk, e, h, nf => by
    unfold chkT at h
    split at h
    · rename_i x p1 j p2 p3 p4
      simp only [Bool.and_eq_true, decide_eq_true_eq] at h
      obtain ⟨⟨⟨h1, h2⟩, h3⟩, h4⟩ := h
      subst h4
      obtain ⟨o1, o2⟩ := okName_of h3
      refine ⟨fun pins s σ H v u Q I r hw => ?_⟩
      obtain ⟨ρ, tm, y, ρ', hb, rs, k⟩ := hw
      unfold bindT at hb
      split at hb
      · rename_i xs hs
        obtain ⟨m, hm, hb⟩ := Option.bind_eq_some_iff.mp hb
        have hs' : slotV ρ i = some (.own xs) := by unfold slotV; rw [hs]; rfl
        obtain ⟨a, vs, e1, e2, e3, ch⟩ := rs.chg hs' hb
        refine (pg_sub (pe_var (i := i) (by rw [hN]; exact h1) (by rw [hsc]; exact vis_of h2) o1 o2) pe_int set_list).run pins s σ H v u Q I r ?_
        refine ⟨.ref a, e1, a, vs, j, m, rfl, rfl, e2, by rw [e3]; exact hm, ?_⟩
        exact k _ _ (ch _ fun F hF ha => ha.set (hF List.mem_cons_self) m) (Apart.refl _ _)
      · cases hb
    · cases h
  | .tp ts, e, h, nf => by
    unfold chkT at h
    split at h
    · rename_i es k pos
      have pgs := pgs_ok hN hsc nd hc hok ts es h (by simpa [tSlots] using nf)
      refine ⟨fun pins s σ H v u Q I r hw => ?_⟩
      obtain ⟨ρ, tm, y, ρ', hb, rs, kk⟩ := hw
      unfold bindT at hb
      split at hb
      · rename_i ds
        obtain ⟨ps, p, g, f⟩ := rs
        rw [← List.append_assoc] at g
        obtain ⟨a, us, rfl, q, aa⟩ := g.seqT (List.mem_append_right _ List.mem_cons_self) rfl
        refine (pg_tup (n := es.length) hc pgs assign_len (assign_find (notStarT h))).run pins s σ H _ u Q I r ?_
        have l1 := bindTs_len hb
        have l2 := chkTs_len h
        refine ⟨a, us, rfl, q, by rw [aa.length, ← l1, l2], ρ, tm, ds, ρ', hb, aa.length, ?_, kk⟩
        have z : RS X.K Φ fx ρ (tm ++ [(.d (.tuple ds), V.ref a)] ++ (ds.map Val.d).zip us) σ H := ⟨ps, p, by rw [← List.append_assoc, ← List.append_assoc]; exact (g.addAll aa).1, f⟩
        exact z.drop
      · cases hb
    · cases h
theorem pgs_ok (hN : X.N = N) (hsc : X.env.scope = sc) (nd : X.N.Nodup) (hc : X.calm = true) (hok : ∀ x, ok x = true → Loc X.env.scope x ∧ (X.fn x = true ∨ X.env.scope.names.lookup x = some .local)) :
    ∀ (ts : List MT) (es : List Expr), chkTs N sc ok ts es = true → (∀ p ∈ fx, p.1 ∉ tSlotss ts) → PGs X es (tGs X.K Φ fx ts)
  | [], [], _, _ => by
    refine ⟨fun pins s σ H vs us Q I r hw => ?_⟩
    obtain ⟨ρ, tm, xs, ρ', hb, hl, rs, k⟩ := hw
    cases xs with
    | cons _ _ => simp [bindTs] at hb
    | nil =>
      have v0 : vs = [] := List.eq_nil_of_length_eq_zero hl
      subst v0
      simp only [bindTs, Option.some.injEq] at hb
      subst hb
      refine pgs_nil.run pins s σ H [] us Q I r ⟨rfl, k _ _ (by simpa using rs) (Apart.refl _ _)⟩
  | t :: ts, e :: es, h, nf => by
    have hst := notStarT h e List.mem_cons_self
    simp only [chkTs, Bool.and_eq_true] at h
    have g1 := pg_ok hN hsc nd hc hok t e h.1 (fun p hp m => nf p hp (by simp [tSlotss, m]))
    have g2 := pgs_ok hN hsc nd hc hok ts es h.2 (fun p hp m => nf p hp (by simp [tSlotss, m]))
    refine ⟨fun pins s σ H vs us Q I r hw => ?_⟩
    obtain ⟨ρ, tm, xs, ρ', hb, hl, rs, k⟩ := hw
    cases xs with
    | nil => simp [bindTs] at hb
    | cons x xs =>
      cases vs with
      | nil => simp at hl
      | cons v vs =>
        unfold bindTs at hb
        obtain ⟨ρ1, hb1, hb2⟩ := Option.bind_eq_some_iff.mp hb
        refine (pgs_cons g1 g2 (by rw [assignEach_cons hst]; rfl)).run pins s σ H _ us Q I r ⟨v, vs, rfl, ρ, tm ++ (xs.map Val.d).zip vs, x, ρ1, hb1, ?_, fun σ1 H1 r1 a1 => ⟨ρ1, tm, xs, ρ', hb2, by simpa using hl, r1, fun σ2 H2 r2 a2 => k σ2 H2 r2 ?_⟩⟩
        · rw [List.map_cons, List.zip_cons_cons] at rs
          refine rs.hand fun ps g => g.perm ?_
          refine .append_left ps ?_
          rw [List.append_assoc]
          exact .append_left tm List.perm_append_comm
        · exact (a1.more fun i m => by simp [tSlotss, m]).trans (a2.more fun i m => by simp [tSlotss, m])
  | [], _ :: _, h, _ => by simp [chkTs] at h
  | _ :: _, [], h, _ => by simp [chkTs] at h
end
end
end Eng
set_option Elab.async false
set_option linter.all false
set_option maxRecDepth 100000
set_option maxHeartbeats 4000000
/-! Eng12: what is walked; a comprehension's turns. -/
namespace Eng
open PySem PySem.Spec PyProof.Rows L2 StX RZ

/-- J walks the items ds, as long as src stands -/
def ItOK (K : PySem.W.Frag) (Φ : Fm) (J : It) (src : List Pr) (ds : List D) : Prop :=
  ∀ (H : Hp) (qs : List Pr), Good K Φ H qs → (∀ q ∈ src, q ∈ qs) → ∀ i : Nat,
    (i < ds.length → J.go i H) ∧ (i = ds.length → J.stop i H) ∧ ∀ (t : D) (x : V) (H' : Hp), ds[i]? = some t → J.yld i H x H' → Good K Φ H' (qs ++ [(.d t, x)])
def tI (K : PySem.W.Frag) (C : Ctx) (Φ : Fm) (fx : List (Nat × V)) (it : MI) : TI := fun σ H R =>
  ∃ (ρ : Env) (tm : List Pr) (ds : List D) (ρ' : Env), denI C it ρ = some (ds, ρ') ∧ RS K Φ fx ρ tm σ H ∧ ∀ J src H', RS K Φ fx ρ' (tm ++ src) σ H' → ItOK K Φ J src ds → R J H'
section
variable {K : PySem.W.Frag} {Φ : Fm} {H : Hp} {qs : List Pr}
theorem sqL_inj {H : Hp} {a : Addr} {vs : List V} (h : ∀ xs, SqL K H a xs → xs = vs) {x : V} {i : Nat} : True := trivial
theorem itl_ok {v : Val} {a : Addr} {ds : List D} (e : v.dat = .list ds) : ItOK K Φ (Itl K a) [(v, .ref a)] ds := by
  intro H qs g hm i
  obtain ⟨b, vs, eb, q, aa⟩ := g.seqL (hm (v, .ref a) (by simp)) e
  cases eb
  refine ⟨fun h => ?_, fun h => ⟨vs, q.sq, by rw [aa.length, h]; exact Nat.le_refl _⟩, fun t x H' ht hy => ?_⟩
  · have hl : i < vs.length := by rw [aa.length]; exact h
    exact ⟨vs, vs[i], q.sq, by simp [hl]⟩
  · obtain ⟨rfl, hx⟩ := hy
    have hx := hx vs q.sq
    obtain ⟨w, hw, at'⟩ := aa.get ht
    rw [hx] at hw
    cases hw
    exact g.add at'
theorem itt_ok {v : Val} {a : Addr} {ds : List D} (e : v.dat = .tuple ds) : ItOK K Φ (Itt K a) [(v, .ref a)] ds := by
  intro H qs g hm i
  obtain ⟨b, vs, eb, q, aa⟩ := g.seqT (hm (v, .ref a) (by simp)) e
  cases eb
  refine ⟨fun h => ?_, fun h => ⟨vs, q, by rw [aa.length, h]; exact Nat.le_refl _⟩, fun t x H' ht hy => ?_⟩
  · have hl : i < vs.length := by rw [aa.length]; exact h
    exact ⟨vs, vs[i], q, by simp [hl]⟩
  · obtain ⟨rfl, hx⟩ := hy
    have hx := hx vs q
    obtain ⟨w, hw, at'⟩ := aa.get ht
    rw [hx] at hw
    cases hw
    exact g.add at'
theorem itr_ok {lo : Int} {n : Nat} : ItOK K Φ (Itr lo n) [] (upTo lo n) := by
  have len : (upTo lo n).length = n := by unfold upTo; rw [List.length_map, List.length_range]
  intro H qs g hm i
  refine ⟨fun h => by rw [len] at h; exact h, fun h => by rw [len] at h; exact Nat.le_of_eq h.symm, fun t x H' ht hy => ?_⟩
  obtain ⟨rfl, rfl⟩ := hy
  have hi : i < n := by
    rcases Nat.lt_or_ge i n with h | h
    · exact h
    · rw [List.getElem?_eq_none (by rw [len]; exact h)] at ht; cases ht
  unfold upTo at ht
  rw [List.getElem?_map, List.getElem?_range hi] at ht
  cases ht
  exact g.add (.int _)
theorem pairUp_get : ∀ {xs ys : List D} {i : Nat} {t : D}, (pairUp xs ys)[i]? = some t → ∃ x y, xs[i]? = some x ∧ ys[i]? = some y ∧ t = .tuple [x, y]
  | [], _, _, _, h => by simp [pairUp] at h
  | _ :: _, [], _, _, h => by simp [pairUp] at h
  | x :: xs, y :: ys, 0, t, h => by
    simp [pairUp] at h
    exact ⟨x, y, rfl, rfl, h.symm⟩
  | x :: xs, y :: ys, i + 1, t, h => by
    obtain ⟨a, b, h1, h2, h3⟩ := pairUp_get (xs := xs) (ys := ys) (i := i) (t := t) (by simpa [pairUp] using h)
    exact ⟨a, b, by simpa using h1, by simpa using h2, h3⟩
theorem pairUp_len : ∀ (xs ys : List D), (pairUp xs ys).length = min xs.length ys.length
  | [], _ => by simp [pairUp]
  | _ :: _, [] => by simp [pairUp]
  | x :: xs, y :: ys => by simp [pairUp, pairUp_len xs ys]
theorem itz_ok {v w : Val} {a b : Addr} {xs ys : List D} (e : v.dat = .list xs) (e2 : w.dat = .list ys) : ItOK K Φ (Itz K a b) [(v, .ref a), (w, .ref b)] (pairUp xs ys) := by
  intro H qs g hm i
  obtain ⟨c, us, ec, q, aa⟩ := g.seqL (hm (v, .ref a) (by simp)) e
  cases ec
  obtain ⟨c, ws, ec, q2, bb⟩ := g.seqL (hm (w, .ref b) (by simp)) e2
  cases ec
  have l1 := aa.length
  have l2 := bb.length
  refine ⟨fun h => ?_, fun h => ?_, fun t x H' ht hy => ?_⟩
  · rw [pairUp_len] at h
    have h1 : i < us.length := by omega
    have h2 : i < ws.length := by omega
    exact ⟨us, ws, us[i], ws[i], q.sq, q2.sq, by simp [h1], by simp [h2]⟩
  · rw [pairUp_len] at h
    exact ⟨us, ws, q.sq, q2.sq, by omega⟩
  · obtain ⟨T, x1, x2, rfl, nT, rfl, f1, f2⟩ := hy
    obtain ⟨a1, a2, h1, h2, rfl⟩ := pairUp_get ht
    obtain ⟨z1, k1, m1⟩ := aa.get h1
    obtain ⟨z2, k2, m2⟩ := bb.get h2
    rw [f1 us q.sq] at k1
    rw [f2 ws q2.sq] at k2
    cases k1
    cases k2
    exact g.newTup nT (.cons m1 (.cons m2 .nil))
theorem itzT_ok {v w : Val} {a b : Addr} {xs ys : List D} (e : v.dat = .tuple xs) (e2 : w.dat = .tuple ys) : ItOK K Φ (ItzT K a b) [(v, .ref a), (w, .ref b)] (pairUp xs ys) := by
  intro H qs g hm i
  obtain ⟨c, us, ec, q, aa⟩ := g.seqT (hm (v, .ref a) (by simp)) e
  cases ec
  obtain ⟨c, ws, ec, q2, bb⟩ := g.seqT (hm (w, .ref b) (by simp)) e2
  cases ec
  have l1 := aa.length
  have l2 := bb.length
  refine ⟨fun h => ?_, fun h => ?_, fun t x H' ht hy => ?_⟩
  · rw [pairUp_len] at h
    have h1 : i < us.length := by omega
    have h2 : i < ws.length := by omega
    exact ⟨us, ws, us[i], ws[i], q, q2, by simp [h1], by simp [h2]⟩
  · rw [pairUp_len] at h
    exact ⟨us, ws, q, q2, by omega⟩
  · obtain ⟨T, x1, x2, rfl, nT, rfl, f1, f2⟩ := hy
    obtain ⟨a1, a2, h1, h2, rfl⟩ := pairUp_get ht
    obtain ⟨z1, k1, m1⟩ := aa.get h1
    obtain ⟨z2, k2, m2⟩ := bb.get h2
    rw [f1 us q] at k1
    rw [f2 ws q2] at k2
    cases k1
    cases k2
    exact g.newTup nT (.cons m1 (.cons m2 .nil))
theorem numbered_get : ∀ {xs : List D} {n i : Nat} {t : D}, (numbered n xs)[i]? = some t → ∃ x, xs[i]? = some x ∧ t = .tuple [.int ((n + i : Nat) : Int), x]
  | [], _, _, _, h => by simp [numbered] at h
  | x :: xs, n, 0, t, h => by
    simp [numbered] at h
    exact ⟨x, rfl, h.symm⟩
  | x :: xs, n, i + 1, t, h => by
    obtain ⟨a, h1, h3⟩ := numbered_get (xs := xs) (n := n + 1) (i := i) (t := t) (by simpa [numbered] using h)
    exact ⟨a, by simpa using h1, by rw [h3]; congr 3; omega⟩
theorem numbered_len : ∀ (n : Nat) (xs : List D), (numbered n xs).length = xs.length
  | _, [] => by simp [numbered]
  | n, x :: xs => by simp [numbered, numbered_len (n + 1) xs]
theorem ite_ok {v : Val} {a : Addr} {xs : List D} (e : v.dat = .list xs) : ItOK K Φ (Ite K a) [(v, .ref a)] (numbered 0 xs) := by
  intro H qs g hm i
  obtain ⟨c, us, ec, q, aa⟩ := g.seqL (hm (v, .ref a) (by simp)) e
  cases ec
  have l1 := aa.length
  refine ⟨fun h => ?_, fun h => ?_, fun t x H' ht hy => ?_⟩
  · rw [numbered_len] at h
    have h1 : i < us.length := by omega
    exact ⟨us, us[i], q.sq, by simp [h1]⟩
  · rw [numbered_len] at h
    exact ⟨us, q.sq, by omega⟩
  · obtain ⟨T, x1, rfl, nT, rfl, f1⟩ := hy
    obtain ⟨a1, h1, rfl⟩ := numbered_get ht
    obtain ⟨z1, k1, m1⟩ := aa.get h1
    rw [f1 us q.sq] at k1
    cases k1
    rw [Nat.zero_add]
    exact g.newTup nT (.cons (.int _) (.cons m1 .nil))
theorem iteT_ok {v : Val} {a : Addr} {xs : List D} (e : v.dat = .tuple xs) : ItOK K Φ (IteT K a) [(v, .ref a)] (numbered 0 xs) := by
  intro H qs g hm i
  obtain ⟨c, us, ec, q, aa⟩ := g.seqT (hm (v, .ref a) (by simp)) e
  cases ec
  have l1 := aa.length
  refine ⟨fun h => ?_, fun h => ?_, fun t x H' ht hy => ?_⟩
  · rw [numbered_len] at h
    have h1 : i < us.length := by omega
    exact ⟨us, us[i], q, by simp [h1]⟩
  · rw [numbered_len] at h
    exact ⟨us, q, by omega⟩
  · obtain ⟨T, x1, rfl, nT, rfl, f1⟩ := hy
    obtain ⟨a1, h1, rfl⟩ := numbered_get ht
    obtain ⟨z1, k1, m1⟩ := aa.get h1
    rw [f1 us q] at k1
    cases k1
    rw [Nat.zero_add]
    exact g.newTup nT (.cons (.int _) (.cons m1 .nil))
end

/-! ### slots wiped -/
section
variable {K : PySem.W.Frag} {Φ : Fm} {fx : List (Nat × V)} {H : Hp} {tm : List Pr} {ρ : Env} {σ : Sl}
theorem PR.off : ∀ {ρ : Env} {σ : Sl} {ps : List Pr} (i : Nat), PR ρ σ ps → ∃ ps' zs, PR (ρ.set i none) (σ.set i none) ps' ∧ (ps' ++ zs).Perm ps
  | _, _, _, _, .nil => ⟨[], [], .nil, .refl _⟩
  | _, _, _, 0, .skip h => ⟨_, [], .skip h, by simp⟩
  | _, _, _, i + 1, .skip h => by
    obtain ⟨ps', zs, h1, h2⟩ := h.off i
    exact ⟨ps', zs, .skip h1, h2⟩
  | _, _, _, 0, .cons (x := y) (v := w) h => ⟨_, [(y, w)], .skip h, List.perm_append_comm⟩
  | _, _, _, i + 1, .cons h => by
    obtain ⟨ps', zs, h1, h2⟩ := h.off i
    exact ⟨_, zs, .cons h1, List.Perm.cons _ h2⟩
theorem PR.offs {σ : Sl} {ps : List Pr} {ρ : Env} (p : PR ρ σ ps) : ∀ vs : List Nat, ∃ ps' zs, PR (wipeE ρ vs) (wipe σ vs) ps' ∧ (ps' ++ zs).Perm ps
  | [] => ⟨ps, [], p, by simp⟩
  | v :: vs => by
    obtain ⟨ps1, zs1, h1, h2⟩ := p.offs vs
    obtain ⟨ps2, zs2, h3, h4⟩ := h1.off v
    refine ⟨ps2, zs2 ++ zs1, h3, ?_⟩
    rw [← List.append_assoc]
    exact (List.Perm.append_right _ h4).trans h2
theorem RS.wiped (r : RS K Φ fx ρ tm σ H) (vs : List Nat) (nf : ∀ p ∈ fx, p.1 ∉ vs) : RS K Φ fx (wipeE ρ vs) tm (wipe σ vs) H := by
  obtain ⟨ps, p, g, f⟩ := r
  obtain ⟨ps', zs, h1, h2⟩ := p.offs vs
  refine ⟨ps', h1, g.less (zs := zs) ?_, fun q hq => by rw [wipe_get, if_neg (nf q hq)]; exact f q hq⟩
  have e1 : (ps' ++ tm ++ zs).Perm ((ps' ++ zs) ++ tm) := by
    rw [List.append_assoc, List.append_assoc]
    exact .append_left _ List.perm_append_comm
  exact e1.trans (.append_right _ h2)
theorem PR.free : ∀ {ρ : Env} {σ : Sl} {ps : List Pr} {i : Nat} (s : Option V), PR (ρ.set i none) σ ps → PR (ρ.set i none) (σ.set i s) ps
  | [], [], _, _, _, h => by simpa using h
  | [], _ :: _, _, _, _, h => by cases h
  | _ :: _, [], _, 0, _, h => by cases h
  | _ :: _, [], _, _ + 1, _, h => by cases h
  | a :: ρ, b :: σ, ps, 0, s, h => by
    cases h with
    | skip h => exact .skip h
  | a :: ρ, b :: σ, ps, i + 1, s, h => by
    rw [List.set_cons_succ] at h ⊢
    rw [List.set_cons_succ]
    cases h with
    | skip h => exact .skip (PR.free s h)
    | cons h => exact .cons (PR.free s h)
theorem PR.unwipe {σ : Sl} : ∀ {vs : List Nat} {ρ : Env} {τ : Sl} {ps : List Pr}, PR (wipeE ρ vs) τ ps → Apart vs σ τ → PR (wipeE ρ vs) σ ps
  | [], ρ, τ, ps, p, a => by
    have : τ = σ := List.ext_getElem? fun i => a.2 i (by simp)
    rw [← this]; exact p
  | v :: vs, ρ, τ, ps, p, a => by
    -- first slot v, then the others by the same on a smaller set
    have key : ∀ {ρ0 : Env} {τ τ' : Sl} {ps : List Pr}, PR ρ0 τ ps → τ'.length = τ.length → (∀ i : Nat, i < ρ0.length → ρ0[i]? ≠ some none → τ'[i]? = τ[i]?) → PR ρ0 τ' ps := by
      intro ρ0
      induction ρ0 with
      | nil => intro τ τ' ps p l _; cases p; cases τ' with
        | nil => exact .nil
        | cons _ _ => simp at l
      | cons x ρ0 ih =>
        intro τ τ' ps p l h
        cases τ' with
        | nil => cases p <;> simp at l
        | cons b τ' =>
          cases p with
          | skip p => exact .skip (ih p (by simpa using l) fun i hl hi => by simpa using h (i + 1) (by simpa using hl) (by simpa using hi))
          | cons p =>
            have := h 0 (by simp) (by simp)
            simp at this
            subst this
            exact .cons (ih p (by simpa using l) fun i hl hi => by simpa using h (i + 1) (by simpa using hl) (by simpa using hi))
    refine key p (by rw [a.1]) fun i hl0 hi => ?_
    by_cases m : i ∈ v :: vs
    · exfalso
      apply hi
      have wg : ∀ {vs : List Nat} {ρ : Env}, (wipeE ρ vs).length = ρ.length := by
        intro vs ρ
        induction vs with
        | nil => rfl
        | cons v vs ih => unfold wipeE; rw [List.length_set, ih]
      have wn : ∀ {vs : List Nat} {ρ : Env}, i ∈ vs → i < ρ.length → (wipeE ρ vs)[i]? = some none := by
        intro vs ρ
        induction vs with
        | nil => intro h; simp at h
        | cons v vs ih =>
          intro h hl
          unfold wipeE
          by_cases e : v = i
          · subst e; rw [List.getElem?_set_self (by rw [wg]; exact hl)]
          · rw [List.getElem?_set_ne e]
            exact ih (by rcases List.mem_cons.mp h with h | h; exact absurd h.symm e; exact h) hl
      rw [wg] at hl0
      exact wn m hl0
    · exact (a.2 i m).symm
end
end Eng
set_option Elab.async false
set_option linter.all false
set_option maxRecDepth 100000
set_option maxHeartbeats 4000000
/-! Eng13: the own language beside the syntax: expressions. -/
namespace Eng
open PySem PySem.Spec PyProof.Rows L2 StX RZ

theorem asB_some {v : Val} {b : Bool} (h : asB v = some b) : v = .d (.bool b) := by
  unfold asB at h
  split at h
  · cases h; rfl
  · cases h
section
variable {K : PySem.W.Frag} {C : Ctx} {Φ : Fm} {fx : List (Nat × V)}
def tConds (K : PySem.W.Frag) (C : Ctx) (Φ : Fm) (fx : List (Nat × V)) : MEs → TT
  | .nil => tYes
  | .cons m _ => tT K C Φ fx m
  | .star _ _ => tYes
theorem cond_run {ms : MEs} (hm : ms = .nil ∨ ∃ m, ms = .cons m .nil) {ρ ρ' : Env} {tm : List Pr} {σ : Sl} {H : Hp} {b : Bool} {R : Bool → Hp → Prop} (h : denC C ms ρ = some (b, ρ')) (r : RS K Φ fx ρ tm σ H)
    (k : ∀ H', RS K Φ fx ρ' tm σ H' → R b H') : tConds K C Φ fx ms σ H R := by
  rcases hm with rfl | ⟨m, rfl⟩
  · simp only [denC, Option.some.injEq, Prod.mk.injEq] at h
    obtain ⟨rfl, rfl⟩ := h
    exact k H r
  · simp only [denC] at h
    obtain ⟨v, h1, h⟩ := Option.bind_eq_some_iff.mp h
    obtain ⟨c, h2, h⟩ := Option.bind_eq_some_iff.mp h
    have e := asB_some h2
    have hb : b = c ∧ ρ' = v.2 := by
      cases c <;> simp at h <;> exact ⟨h.1, h.2.symm⟩
    obtain ⟨rfl, rfl⟩ := hb
    exact ⟨ρ, tm, b, v.2, by rw [h1, ← e], r, k⟩
/-- a comprehension's reading, turn by turn -/
theorem comp_run {elt : ME} {t : MT} {it : MI} {ifs : MEs} {own : List Nat} (ho : ∀ i ∈ tSlots t, i ∈ own) (nf : ∀ p ∈ fx, p.1 ∉ own) (hi : ifs = .nil ∨ ∃ m, ifs = .cons m .nil)
    {σ : Sl} {H : Hp} {Q : VK} (h : tD K C Φ fx (.comp elt t it ifs own) σ H Q) : tLc (tI K C Φ fx it) (tG K Φ fx t) (tConds K C Φ fx ifs) (tD K C Φ fx elt) own σ H Q := by
  obtain ⟨ρ, tm, v, ρ', hd, r, k⟩ := h
  unfold den at hd
  obtain ⟨⟨ds, ρ1⟩, h1, hd⟩ := Option.bind_eq_some_iff.mp hd
  simp only at hd
  split at hd
  · rename_i hlen
    obtain ⟨⟨fin, ρ2⟩, h2, hd⟩ := Option.map_eq_some_iff.mp hd
    simp only [Prod.mk.injEq] at hd
    obtain ⟨rfl, rfl⟩ := hd
    have nfw : ∀ {σ2 : Sl} {i : Nat} {w : V}, (i, w) ∈ fx → (wipe σ2 own)[i]? = σ2[i]? := fun hm => by rw [wipe_get, if_neg (nf _ hm)]
    refine ⟨ρ, tm, ds, ρ1, h1, r, fun J src H1 rs ok D hD => ⟨fun i m H => m + i = ds.length ∧ ∃ (ρk : Env) (acc rest : List PyData), acc.length ≤ i ∧
      compLoop (bindT t) (denC C ifs) (den C elt) own (ds.drop i) (wipeE ρk own) = some (rest, ρ2) ∧ acc ++ rest = fin ∧ RS K Φ fx (wipeE ρk own) (tm ++ src ++ [(.own acc, .ref D)]) (wipe σ own) H, ?_, ?_⟩⟩
    · refine ⟨ds.length, by omega, ρ1, [], fin, Nat.le_refl _, by simpa using h2, rfl, ?_⟩
      exact (rs.wiped own nf).hand fun ps g => by
        rw [← List.append_assoc]
        exact g.newLst hD .nil
    · rintro i m H ⟨hm, ρk, acc, rest, hacc, hc, hf, rk⟩
      have itk : ∀ j : Nat, (j < ds.length → J.go j H) ∧ (j = ds.length → J.stop j H) := fun j => let ⟨ps, p, g, f⟩ := rk
        let z := ok H _ g (fun q hq => by simp [hq]) j
        ⟨z.1, z.2.1⟩
      by_cases hlt : i < ds.length
      · refine .inr ⟨(itk i).1 hlt, fun H' => ((m - 1) + (i + 1) = ds.length ∧ ∃ (ρk : Env) (acc rest : List PyData), acc.length ≤ i + 1 ∧
          compLoop (bindT t) (denC C ifs) (den C elt) own (ds.drop (i + 1)) (wipeE ρk own) = some (rest, ρ2) ∧ acc ++ rest = fin ∧ RS K Φ fx (wipeE ρk own) (tm ++ src ++ [(.own acc, .ref D)]) (wipe σ own) H'), fun H' hn => ⟨m - 1, by omega, hn⟩, fun x H' hy => ?_⟩
        have e0 : ds[i]? = some ds[i] := by simp [hlt]
        have ed : ds.drop i = ds[i] :: ds.drop (i + 1) := List.drop_eq_getElem_cons hlt
        rw [ed] at hc
        unfold compLoop at hc
        obtain ⟨ρa, c1, hc⟩ := Option.bind_eq_some_iff.mp hc
        obtain ⟨⟨b, ρb⟩, c2, hc⟩ := Option.bind_eq_some_iff.mp hc
        simp only at hc
        have rx : RS K Φ fx (wipeE ρk own) (tm ++ src ++ [(.own acc, .ref D)] ++ [(.d ds[i], x)]) (wipe σ own) H' := rk.hand fun ps g => by
          rw [← List.append_assoc]
          exact (ok H _ g (fun q hq => by simp [hq]) i).2.2 _ _ _ e0 hy
        refine ⟨_, _, ds[i], ρa, c1, rx, fun σ2 H2 r2 ap => ?_⟩
        have we : wipe σ2 own = wipe σ own := ((ap.more ho).wipe).trans (Apart.wiped own σ).wipe
        refine ⟨we, cond_run hi c2 r2 fun H3 r3 => ?_⟩
        cases b with
        | true =>
          rw [if_pos rfl] at hc ⊢
          obtain ⟨⟨u, ρc⟩, c3, hc⟩ := Option.bind_eq_some_iff.mp hc
          obtain ⟨⟨rest', ρe⟩, c4, hc⟩ := Option.map_eq_some_iff.mp hc
          simp only [Prod.mk.injEq] at hc
          obtain ⟨rfl, rfl⟩ := hc
          refine ⟨ρb, _, u, ρc, c3, r3, fun y H4 r4 => ?_⟩
          obtain ⟨ps, p, g, f⟩ := r4
          have mo : (Val.own acc, V.ref D) ∈ ps ++ (tm ++ src ++ [(.own acc, .ref D)] ++ [(u, y)]) := by simp
          obtain ⟨a, vs, ea, ha, hv⟩ := (g.rv _ mo).ofOwn
          cases ea
          have hl := hv.length
          have g1 : Good K Φ H4 ((ps ++ (tm ++ src)) ++ (.own acc, .ref D) :: [(.d u.dat, y)]) := by
            have g0 : Good K Φ H4 (((ps ++ (tm ++ src)) ++ [(.own acc, .ref D)]) ++ (u, y) :: []) := by
              have := g
              simp only [List.append_assoc] at this ⊢
              exact this
            have g0' : Good K Φ H4 (((ps ++ (tm ++ src)) ++ [(.own acc, .ref D)]) ++ (.d u.dat, y) :: []) := by
              cases u with
              | d t => exact g0
              | own us => exact g0.freeze
            simp only [List.append_assoc, List.cons_append, List.nil_append] at g0' ⊢
            exact g0'
          have hv1 : AtAll K (fz Φ H4 ((ps ++ (tm ++ src)) ++ (.own acc, .ref D) :: [(.d u.dat, y)])) vs acc := by
            obtain ⟨a, vs', ea, ha', hv'⟩ := (g1.rv (.own acc, .ref D) (by simp)).ofOwn
            cases ea
            rw [ha] at ha'
            cases ha'
            exact hv'
          have hy1 := g1.atD (t := u.dat) (v := y) (by simp)
          have g2 := g1.change (xs' := acc ++ [u.dat]) (vs' := vs ++ [y]) (hv1.append (.cons hy1 .nil))
          refine ⟨vs, ha, ?_, by omega, ρc, acc ++ [u.dat], rest', by rw [List.length_append]; simp; omega, c4, by rw [← hf]; simp, ?_⟩
          · rw [hl]
            exact Nat.lt_of_lt_of_le (Nat.lt_of_le_of_lt hacc hlt) (Nat.le_trans hlen szLine)
          · have r5 : RS K Φ fx ρc (tm ++ src ++ [(.own (acc ++ [u.dat]), .ref D)]) σ2 (upd H4 D (.lst (vs ++ [y]))) := ⟨ps, p, g2.less (zs := [(.d u.dat, y)]) (by simp only [List.append_assoc, List.cons_append, List.nil_append]; exact .refl _), f⟩
            have r6 := r5.wiped own nf
            rw [we] at r6
            exact r6
        | false =>
          rw [if_neg Bool.false_ne_true] at hc ⊢
          refine ⟨by omega, ρb, acc, rest, by omega, hc, hf, ?_⟩
          have r6 := r3.wiped own nf
          rw [we] at r6
          exact r6
      · have ei : i = ds.length := by omega
        refine .inl ⟨(itk i).2 ei, ?_⟩
        rw [ei, List.drop_length] at hc
        simp only [compLoop, Option.some.injEq, Prod.mk.injEq] at hc
        obtain ⟨rfl, rfl⟩ := hc
        rw [List.append_nil] at hf
        subst hf
        refine k _ _ ?_
        obtain ⟨ps, p, g, f⟩ := rk.drop
        exact ⟨ps, p.unwipe (Apart.wiped own σ), g, fun q hq => by rw [← nfw hq]; exact f q hq⟩
  · cases hd
end

/-! ### the look -/
def isBo : ME → Bool
  | .and _ _ => true
  | .or _ _ => true
  | _ => false
def tst : ME → Bool
  | .ite .. => false
  | .not a => tst a
  | .and a b => tst a && tst b
  | .or a b => tst a && tst b
  | _ => true
def singleC : MEs → Bool
  | .nil => true
  | .cons m .nil => tst m
  | _ => false
def noStars : MEs → Bool
  | .nil => true
  | .cons _ r => noStars r
  | .star _ _ => false
def ownPairs (N : List Str) (own : List Nat) : List (Str × Nat) := own.map fun i => (N.getD i "", i)
def kwNames (ks : List Keyword) : List Str := ks.filterMap fun q => match q with | ⟨n, _, _⟩ => n
def kwVals (ks : List Keyword) : List Expr := ks.map fun q => match q with | ⟨_, v, _⟩ => v
def kwAll : List Keyword → Bool
  | [] => true
  | ⟨n, _, _⟩ :: r => n.isSome && kwAll r
def okBlk (scope : Scope) (x : Str) : Bool := kindIs scope x .local || kindIs scope x .cell
mutual
def chkE (S : Sg) (N : List Str) (F : List Nat) : Scope → ME → Expr → Bool
  | sc, .var i, e => (match e with
    | .Name x _ => decide (N[i]? = some x) && visB sc x && okName x
    | _ => false)
  | _, .k c, e => (match e with
    | .Constant q _ _ => constIs c q
    | _ => false)
  | sc, .glob i, e => (match e with
    | .Name x _ => decide (S.gs[i]? = some x) && kindIs sc x .globalImplicit && okName x
    | _ => false)
  | sc, .prim p as, e => decide (p = .gcd → ("gcd" : Str) ∈ S.gs) && (match shape sc p e with
    | some es => chkOs S N F sc as es
    | none => false)
  | sc, .chain p q as c, e => (match e with
    | .Compare a [o1, o2] [b, d] _ => decide (cmpOf p = some o1) && decide (cmpOf q = some o2) && notSet b && notSet d && chkOs S N F sc as [a, b] && chkOs S N F sc c [d]
    | _ => false)
  | sc, .cut as lo hi, e => (match e with
    | .Subscript a (.Slice (some l) (some h) none _) _ => chkOs S N F sc as [a] && chkE S N F sc lo l && chkE S N F sc hi h
    | _ => false)
  | sc, .not a, e => (match e with
    | .UnaryOp .Not x _ => chkE S N F sc a x
    | _ => false)
  | sc, .and a b, e => (match e with
    | .BoolOp .And (x :: y :: r) pos => chkE S N F sc a x && (match r with
      | [] => chkE S N F sc b y
      | r => isBo b && chkE S N F sc b (.BoolOp .And (y :: r) pos))
    | _ => false)
  | sc, .or a b, e => (match e with
    | .BoolOp .Or (x :: y :: r) pos => chkE S N F sc a x && (match r with
      | [] => chkE S N F sc b y
      | r => isBo b && chkE S N F sc b (.BoolOp .Or (y :: r) pos))
    | _ => false)
  | sc, .ite c a b, e => (match e with
    | .IfExp ce ae be _ => chkE S N F sc c ce && tst c && chkE S N F sc a ae && chkE S N F sc b be
    | _ => false)
  | sc, .fn f as, e => (match e with
    | .Call (.Name x _) es ks _ => ks.isEmpty && (match S.fs[f]? with
      | some (y, ps, _) => decide (x = y) && kindIs sc x .globalImplicit && okName x && decide (es.length = ps.length) && chkOs S N F sc as es
      | none => false)
    | _ => false)
  | sc, .fnK f perm as, e => (match e with
    | .Call (.Name x _) [] ks _ => noStars as && (match S.fs[f]? with
      | some (y, ps, kws) => decide (x = y) && kindIs sc x .globalImplicit && okName x && !ks.isEmpty && kwAll ks && decide (perm.length = ps.length) && decide ((kwNames ks, perm) ∈ kws) && chkVs S N F sc as (kwVals ks)
      | none => false)
    | _ => false)
  | sc, .tup as, e => (match e with
    | .Tuple es _ _ => chkVs S N F sc as es
    | _ => false)
  | sc, .lst as, e => (match e with
    | .List es _ => chkVs S N F sc as es
    | _ => false)
  | _, .dic, e => (match e with
    | .Dict [] [] _ => true
    | _ => false)
  | sc, .comp elt t it ifs own, e => (match e with
    | .ListComp ee [⟨tg, iter, cs, a⟩] scope _ => decide (a = 0) && chkI S N F sc it tg iter && blkC N sc scope (ownPairs N own) && decide ((tSlots t).all (fun i => own.contains i) = true) && decide (own.all (fun i => !F.contains i) = true) && singleC ifs &&
      chkT N (relS scope sc) (okBlk scope) t tg && chkC S N F (relS scope sc) ifs cs && chkE S N F (relS scope sc) elt ee
    | _ => false)
def chkOs (S : Sg) (N : List Str) (F : List Nat) : Scope → MEs → List Expr → Bool
  | _, .nil, es => es.isEmpty
  | sc, .cons m r, es => (match es with
    | e :: es => notStar e && chkE S N F sc m e && chkOs S N F sc r es
    | [] => false)
  | _, .star _ _, _ => false
def chkVs (S : Sg) (N : List Str) (F : List Nat) : Scope → MEs → List Expr → Bool
  | _, .nil, es => es.isEmpty
  | sc, .cons m r, es => (match es with
    | e :: es => notStar e && chkE S N F sc m e && chkVs S N F sc r es
    | [] => false)
  | sc, .star m r, es => (match es with
    | .Starred e _ :: es => chkE S N F sc m e && chkVs S N F sc r es
    | _ => false)
def chkC (S : Sg) (N : List Str) (F : List Nat) : Scope → MEs → List Expr → Bool
  | _, .nil, es => es.isEmpty
  | sc, .cons m r, es => (match es with
    | e :: es => chkE S N F sc m e && chkC S N F sc r es
    | [] => false)
  | _, .star _ _, _ => false
def chkI (S : Sg) (N : List Str) (F : List Nat) : Scope → MI → Expr → Expr → Bool
  | sc, .val e, _, x => notSet x && chkE S N F sc e x
  | sc, .rng1 e, _, x => (match x with
    | .Call (.Name r _) [a] ks _ => ks.isEmpty && decide (r = ("range" : Str)) && kindIs sc r .globalImplicit && notStar a && chkE S N F sc e a
    | _ => false)
  | sc, .rng2 e f, _, x => (match x with
    | .Call (.Name r _) [a, b] ks _ => ks.isEmpty && decide (r = ("range" : Str)) && kindIs sc r .globalImplicit && notStar a && notStar b && chkE S N F sc e a && chkE S N F sc f b
    | _ => false)
  | sc, .zip e f, tg, x => (match x, tg with
    | .Call (.Name r _) [a, b] ks _, .Tuple _ _ _ => ks.isEmpty && decide (r = ("zip" : Str)) && kindIs sc r .globalImplicit && notStar a && notStar b && chkE S N F sc e a && chkE S N F sc f b
    | _, _ => false)
  | sc, .enum e, tg, x => (match x, tg with
    | .Call (.Name r _) [a] ks _, .Tuple _ _ _ => ks.isEmpty && decide (r = ("enumerate" : Str)) && kindIs sc r .globalImplicit && notStar a && chkE S N F sc e a
    | _, _ => false)
end
end Eng
set_option Elab.async false
set_option linter.all false
set_option maxRecDepth 100000
set_option maxHeartbeats 4000000
/-! Eng14: expressions keep to the evaluator: the single forms. -/
namespace Eng
open PySem PySem.Spec PyProof.Rows L2 StX RZ
section
variable {X : Cx} {C : Ctx} {Φ : Fm} {fx : List (Nat × V)} {S : Sg} {N : List Str} {k : Nat} {sc : Scope}

/-- a test's reading from a value's -/
theorem tT_of {K : PySem.W.Frag} {m : ME} {σ : Sl} {H : Hp} {Q : Bool → Hp → Prop} (h : tT K C Φ fx m σ H Q) : tD K C Φ fx m σ H fun x H1 => ∃ c, x = .bl c ∧ Q c H1 := by
  obtain ⟨ρ, tm, b, ρ', hd, r, k⟩ := h
  refine ⟨ρ, tm, _, ρ', hd, r, fun y H' r' => ?_⟩
  obtain ⟨ps, p, g, f⟩ := id r'
  have e := g.bool (x := .d (.bool b)) (v := y) (by simp) rfl
  exact ⟨b, e, k H' r'.left⟩
def plainTest : Expr → Bool
  | .UnaryOp .Not _ _ => false
  | .BoolOp .. => false
  | .IfExp .. => false
  | .Compare .. => false
  | _ => true
theorem isTrue_of {e : Expr} {env : PySem.Env} (h : plainTest e = true) (whole : Sem Value) : isTrue e env whole = (do let v ← whole; standAt e.pos; holding [v] (truthy v)) := by
  cases e with
  | UnaryOp op a p => cases op <;> first | rfl | cases h
  | BoolOp => cases h
  | IfExp => cases h
  | Compare => cases h
  | _ => rfl
theorem pt_of {m : ME} {e : Expr} (h : PE X e (tD X.K C Φ fx m)) (hp : plainTest e = true) : PT X e (tT X.K C Φ fx m) :=
  PT.to (pt_val h (isTrue_of hp)) fun σ H Q q => tT_of q
/-- comparisons as tests -/
theorem cmp_ok (g : XG S N C k sc X) {p : Prim} {a b : Expr} {op : CmpOp} {pos : Pos} {m1 m2 : ME} (hb : cmpOf p = some op) (hn : notSet b = true) (h1 : PE X a (tO X.K C Φ fx m1)) (h2 : PE X b (tO X.K C Φ fx m2)) :
    PT X (.Compare a [op] [b] pos) (tT X.K C Φ fx (.prim p (.cons m1 (.cons m2 .nil)))) := by
  have hu := g.units
  have go : ∀ {r : R2}, OpR X (compareOp op) r → (∀ x y H Q, rP X.K p [x, y] H Q → r x y H Q) → PT X (.Compare a [op] [b] pos) (tT X.K C Φ fx (.prim p (.cons m1 (.cons m2 .nil)))) := fun ho i =>
    PT.to (pt_cmpR ho h1 h2 (inMarks hn)) fun σ H Q q => tO_mono (prim_run (tT_of q)) fun x H1 q => tO_mono q fun y H2 q => i _ _ _ _ q
  cases p <;> simp only [cmpOf, Option.some.injEq, reduceCtorEq] at hb <;> subst hb
  · exact go (or_eq (by omega)) fun _ _ _ _ h => h
  · exact go (or_ne (by omega)) fun _ _ _ _ h => h
  · exact go or_lt fun _ _ _ _ h => h
  · exact go or_le fun _ _ _ _ h => h
  · exact go or_gt fun _ _ _ _ h => h
  · exact go or_ge fun _ _ _ _ h => h
  · exact go (or_in (by omega)) fun _ _ _ _ h => h
  · exact go (or_notin (by omega)) fun _ _ _ _ h => h
theorem isN_ok {a : Expr} {pos p' : Pos} {j : Nat} {m1 : ME} (h1 : PE X a (tO X.K C Φ fx m1)) : PT X (.Compare a [.Is] [.Constant .none j p'] pos) (tT X.K C Φ fx (.prim .isNone (.cons m1 .nil))) :=
  PT.to (pt_cmp (pc_isN h1) rfl) fun σ H Q q => tO_mono (prim_run (tT_of q)) fun x H1 q => by
    obtain ⟨a, Φ, qs, v, g, ma, hp, k⟩ := q.one
    rw [← noneD g ma]
    exact kB g hp k
theorem notN_ok {a : Expr} {pos p' : Pos} {j : Nat} {m1 : ME} (h1 : PE X a (tO X.K C Φ fx m1)) : PT X (.Compare a [.IsNot] [.Constant .none j p'] pos) (tT X.K C Φ fx (.prim .notNone (.cons m1 .nil))) :=
  PT.to (pt_cmp (pc_notN h1) rfl) fun σ H Q q => tO_mono (prim_run (tT_of q)) fun x H1 q => by
    obtain ⟨a, Φ, qs, v, g, ma, hp, k⟩ := q.one
    rw [← noneD g ma]
    exact kB g hp k
/-- any operation as a test -/
theorem prim_okT (g : XG S N C k sc X) {p : Prim} {e : Expr} {es : List Expr} {ms : MEs} (hgc : p = .gcd → ("gcd" : Str) ∈ S.gs) (hs : shape sc p e = some es) (o : AllO X C Φ fx ms es) : PT X e (tT X.K C Φ fx (.prim p ms)) := by
  have pe := prim_ok g hgc hs o
  cases e with
  | Compare l ops cs pos =>
    unfold shape at hs
    split at hs
    · rename_i h; cases h
    · rename_i h; cases h
    · rename_i a op b pos heq
      cases heq
      split at hs
      · rename_i hb
        split at hs
        · rename_i hn
          cases hs
          cases o with
          | cons n1 h1 o =>
            cases o with
            | cons n2 h2 o =>
              cases o
              exact cmp_ok g hb hn h1 h2
        · cases hs
      · split at hs
        · split at hs
          · rename_i hb
            subst hb
            cases hs
            cases o with
            | cons n1 h1 o => cases o; exact isN_ok h1
          · cases hs
        · split at hs
          · rename_i hb
            subst hb
            cases hs
            cases o with
            | cons n1 h1 o => cases o; exact notN_ok h1
          · cases hs
        · cases hs
    · rename_i h; cases h
    · rename_i h; cases h
    · cases hs
  | UnaryOp op a pos =>
    cases op with
    | USub => exact pt_of pe rfl
    | Not => simp [shape] at hs
    | UAdd => simp [shape] at hs
    | Invert => simp [shape] at hs
  | BoolOp => simp [shape] at hs
  | IfExp => simp [shape] at hs
  | _ => exact pt_of pe rfl

/-! ### two comparisons in a row -/
theorem op_keep {K : PySem.W.Frag} {ρ : Env} {os : List Opv} {tm tm' ex : List Pr} {ys : List V} {xs : List Val} {p : Prim} {v : Val} {Q : VK} {σ : Sl} {H : Hp} (r : RS K Φ fx ρ (tm ++ tm' ++ ex) σ H) (o : OpRel σ os tm' ys) (e : resolve ρ os = some xs)
    (hp : prim p xs = some v) (k : ∀ y H', RS K Φ fx ρ (tm ++ tm' ++ ex ++ [(v, y)]) σ H' → Q y H') : rP K p ys H Q := by
  obtain ⟨ps, q, g, f⟩ := r
  obtain ⟨l, m⟩ := o.res q e
  refine ⟨xs, Φ, ps ++ (tm ++ tm' ++ ex), v, g, l, fun z hz => ?_, hp, fun y H' g' => k y H' ⟨ps, q, by rw [← List.append_assoc]; exact g', f⟩⟩
  rcases List.mem_append.mp (m z hz) with m | m
  · simp [m]
  · simp [m]
theorem denOs_cons {C : Ctx} {e : ME} {r : MEs} {ρ : Env} {w : List Opv × Env} (h : denOs C (.cons e r) ρ = some w) : ∃ o ρ1 os, denOs C r ρ1 = some (os, w.2) ∧ w.1 = o :: os := by
  have other : ∀ v : Val × Env, (denOs C r v.2).map (fun w => ((.vl v.1 :: w.1 : List Opv), w.2)) = some w → ∃ o ρ1 os, denOs C r ρ1 = some (os, w.2) ∧ w.1 = o :: os := fun v h2 => by
    obtain ⟨u, h3, h4⟩ := Option.map_eq_some_iff.mp h2
    cases h4
    exact ⟨_, _, _, h3, rfl⟩
  unfold denOs at h
  cases e with
  | var i =>
    obtain ⟨x, h1, h2⟩ := Option.bind_eq_some_iff.mp h
    obtain ⟨u, h3, h4⟩ := Option.map_eq_some_iff.mp h2
    cases h4
    exact ⟨_, _, _, h3, rfl⟩
  | k c => obtain ⟨v, h1, h2⟩ := Option.bind_eq_some_iff.mp h; exact other v h2
  | glob i => obtain ⟨v, h1, h2⟩ := Option.bind_eq_some_iff.mp h; exact other v h2
  | prim p as => obtain ⟨v, h1, h2⟩ := Option.bind_eq_some_iff.mp h; exact other v h2
  | chain p q as c => obtain ⟨v, h1, h2⟩ := Option.bind_eq_some_iff.mp h; exact other v h2
  | cut as lo hi => obtain ⟨v, h1, h2⟩ := Option.bind_eq_some_iff.mp h; exact other v h2
  | not a => obtain ⟨v, h1, h2⟩ := Option.bind_eq_some_iff.mp h; exact other v h2
  | and a b => obtain ⟨v, h1, h2⟩ := Option.bind_eq_some_iff.mp h; exact other v h2
  | or a b => obtain ⟨v, h1, h2⟩ := Option.bind_eq_some_iff.mp h; exact other v h2
  | ite c a b => obtain ⟨v, h1, h2⟩ := Option.bind_eq_some_iff.mp h; exact other v h2
  | fn f as => obtain ⟨v, h1, h2⟩ := Option.bind_eq_some_iff.mp h; exact other v h2
  | fnK f perm as => obtain ⟨v, h1, h2⟩ := Option.bind_eq_some_iff.mp h; exact other v h2
  | tup as => obtain ⟨v, h1, h2⟩ := Option.bind_eq_some_iff.mp h; exact other v h2
  | lst as => obtain ⟨v, h1, h2⟩ := Option.bind_eq_some_iff.mp h; exact other v h2
  | dic => obtain ⟨v, h1, h2⟩ := Option.bind_eq_some_iff.mp h; exact other v h2
  | comp elt t it ifs own => obtain ⟨v, h1, h2⟩ := Option.bind_eq_some_iff.mp h; exact other v h2
theorem denOs_nil {C : Ctx} {ρ : Env} {w : List Opv × Env} (h : denOs C .nil ρ = some w) : w.1 = [] := by
  simp only [denOs, Option.some.injEq] at h
  rw [← h]
/-- one operand, then what comes -/
theorem op_one {K : PySem.W.Frag} {m : ME} {ρ ρ' : Env} {tm : List Pr} {σ : Sl} {H : Hp} {os : List Opv} {R : V → Hp → Prop} (h : denOs C (.cons m .nil) ρ = some (os, ρ')) (r : RS K Φ fx ρ tm σ H)
    (k : ∀ y tm' H', RS K Φ fx ρ' (tm ++ tm') σ H' → OpRel σ os tm' [y] → R y H') : tO K C Φ fx m σ H R := by
  obtain ⟨o, ρ1, os1, h1, e1⟩ := denOs_cons h
  have e2 := denOs_nil h1
  simp only at e1 e2
  subst e2
  subst e1
  have z := os_run (R := fun ys H2 => ∃ y, ys = [y] ∧ R y H2) _ h r fun ys tm' H2 r2 o2 => by
    have : ∃ y, ys = [y] := by
      cases o2 with
      | sl _ o2 => cases o2; exact ⟨_, rfl⟩
      | vl o2 => cases o2; exact ⟨_, rfl⟩
    obtain ⟨y, rfl⟩ := this
    exact ⟨y, rfl, k y tm' H2 r2 o2⟩
  refine tO_mono z fun x H1 q => ?_
  obtain ⟨y, e, q⟩ := q
  cases e
  exact q
theorem op_two {K : PySem.W.Frag} {m n : ME} {ρ ρ' : Env} {tm : List Pr} {σ : Sl} {H : Hp} {os : List Opv} {R : V → V → Hp → Prop} (h : denOs C (.cons m (.cons n .nil)) ρ = some (os, ρ')) (r : RS K Φ fx ρ tm σ H)
    (k : ∀ x y tm' H', RS K Φ fx ρ' (tm ++ tm') σ H' → OpRel σ os tm' [x, y] → R x y H') : tO K C Φ fx m σ H fun x H1 => tO K C Φ fx n σ H1 fun y H2 => R x y H2 := by
  obtain ⟨o, ρ1, os1, h1, e1⟩ := denOs_cons h
  obtain ⟨o', ρ1', os1', h1', e1'⟩ := denOs_cons h1
  have e2 := denOs_nil h1'
  simp only at e1 e1' e2
  subst e2
  subst e1'
  subst e1
  have z := os_run (R := fun ys H2 => ∃ x y, ys = [x, y] ∧ R x y H2) _ h r fun ys tm' H2 r2 o2 => by
    have : ∃ x y, ys = [x, y] := by
      cases o2 with
      | sl _ o2 => cases o2 with
        | sl _ o2 => cases o2; exact ⟨_, _, rfl⟩
        | vl o2 => cases o2; exact ⟨_, _, rfl⟩
      | vl o2 => cases o2 with
        | sl _ o2 => cases o2; exact ⟨_, _, rfl⟩
        | vl o2 => cases o2; exact ⟨_, _, rfl⟩
    obtain ⟨x, y, rfl⟩ := this
    exact ⟨x, y, rfl, k x y tm' H2 r2 o2⟩
  refine tO_mono z fun x H1 q => tO_mono q fun y H2 q => ?_
  obtain ⟨a, b, e, q⟩ := q
  cases e
  exact q
theorem chain_run {K : PySem.W.Frag} {p q : Prim} {a b c : ME} {σ : Sl} {H : Hp} {Q : VK} (h : tD K C Φ fx (.chain p q (.cons a (.cons b .nil)) (.cons c .nil)) σ H Q) :
    tChain (fun x y => rP K p [x, y]) (fun x y => rP K q [x, y]) (tO K C Φ fx a) (tO K C Φ fx b) (tO K C Φ fx c) σ H Q := by
  obtain ⟨ρ, tm, w, ρ', hd, r, k⟩ := h
  unfold den at hd
  obtain ⟨⟨os, ρ1⟩, h1, hd⟩ := Option.bind_eq_some_iff.mp hd
  obtain ⟨xs, h2, hd⟩ := Option.bind_eq_some_iff.mp hd
  obtain ⟨v, h3, hd⟩ := Option.bind_eq_some_iff.mp hd
  obtain ⟨t, h4, hz⟩ := Option.bind_eq_some_iff.mp hd
  clear hd
  have ev := asB_some h4
  subst ev
  refine op_two (R := fun x y H2 => rP K p [x, y] H2 fun z H3 => ∃ k, z = .bl k ∧ (if k = true then tO K C Φ fx c σ H3 fun w' H4 => rP K q [y, w'] H4 Q else Q (.bl false) H3)) h1 r fun x y tm' H2 r2 o => ?_
  cases t with
  | false =>
    simp only [Bool.false_eq_true, if_false, Option.some.injEq, Prod.mk.injEq] at hz
    obtain ⟨rfl, rfl⟩ := hz
    refine op_fin r2 o h2 h3 fun u H3 r3 => ?_
    obtain ⟨ps, p', g, f⟩ := id r3
    have e := g.bool (x := .d (.bool false)) (v := u) (by simp) rfl
    subst e
    exact ⟨false, rfl, by simpa using k _ _ r3⟩
  | true =>
    rw [if_pos rfl] at hz
    obtain ⟨⟨os2, ρ2⟩, h5, hz2⟩ := Option.bind_eq_some_iff.mp hz
    clear hz
    obtain ⟨zs, h6, hz⟩ := Option.bind_eq_some_iff.mp hz2
    clear hz2
    split at hz
    · rename_i x1 yd zc
      obtain ⟨w2, h7, hz⟩ := Option.map_eq_some_iff.mp hz
      simp only [Prod.mk.injEq] at hz
      obtain ⟨rfl, rfl⟩ := hz
      have r3 : RS K Φ fx ρ1 (tm ++ tm' ++ [(.d yd, y)]) σ H2 := by
        obtain ⟨ps, p', g, f⟩ := r2
        obtain ⟨_, hm⟩ := o.res p' h2
        have my : (Val.d yd, y) ∈ ps ++ (tm ++ tm') := by
          have := hm (Val.d yd, y) (by simp)
          rcases List.mem_append.mp this with m | m
          · simp [m]
          · simp [m]
        exact ⟨ps, p', by rw [← List.append_assoc]; exact g.add (g.atD my), f⟩
      refine op_keep r3 o h2 h3 fun u H3 r4 => ?_
      obtain ⟨ps, p', g, f⟩ := id r4
      have e := g.bool (x := .d (.bool true)) (v := u) (by simp) rfl
      subst e
      refine ⟨true, rfl, ?_⟩
      rw [if_pos rfl]
      have r5 : RS K Φ fx ρ1 (tm ++ [(.d yd, y)]) σ H3 := r4.left.drop
      refine op_one h5 r5 fun w' tm3 H4 r6 o3 => ?_
      obtain ⟨ps, p', g, f⟩ := r6
      obtain ⟨_, hm⟩ := o3.res p' h6
      refine ⟨[.d yd, zc], Φ, ps ++ (tm ++ [(.d yd, y)] ++ tm3), w2, g, rfl, fun z hz => ?_, h7, fun u H' g' => k u H' ?_⟩
      · simp only [List.zip_cons_cons, List.zip_nil_left, List.mem_cons, List.not_mem_nil, or_false] at hz
        rcases hz with rfl | rfl
        · simp
        · rcases List.mem_append.mp (hm (zc, w') (by simp)) with m | m
          · simp [m]
          · simp [m]
      · have : RS K Φ fx ρ2 (tm ++ ([(.d yd, y)] ++ tm3) ++ [(w2, u)]) σ H' := ⟨ps, p', by
          have := g'
          simp only [List.append_assoc] at this ⊢
          exact this, f⟩
        exact this.drop
    · cases hz
/-- a[lo:hi] -/
theorem cut_run {K : PySem.W.Frag} {a lo hi : ME} {σ : Sl} {H : Hp} {Q : VK} (h : tD K C Φ fx (.cut (.cons a .nil) lo hi) σ H Q) :
    tSl (rSl K) (tO K C Φ fx a) (tPart (tD K C Φ fx lo)) (tPart (tD K C Φ fx hi)) σ H Q := by
  obtain ⟨ρ, tm, w, ρ', hd, r, k⟩ := h
  unfold den at hd
  obtain ⟨⟨os, ρ1⟩, h1, hd1⟩ := Option.bind_eq_some_iff.mp hd
  obtain ⟨⟨l, ρ2⟩, h2, hd2⟩ := Option.bind_eq_some_iff.mp hd1
  obtain ⟨⟨u, ρ3⟩, h3, hd3⟩ := Option.bind_eq_some_iff.mp hd2
  clear hd hd1 hd2
  obtain ⟨xs, h4, hd⟩ := Option.bind_eq_some_iff.mp hd3
  clear hd3
  simp only at h2 h3 h4 hd
  split at hd
  · rename_i x i j
    obtain ⟨w2, h7, hd⟩ := Option.map_eq_some_iff.mp hd
    simp only [Prod.mk.injEq] at hd
    obtain ⟨rfl, rfl⟩ := hd
    refine op_one h1 r fun y tm' H2 r2 o => ?_
    refine ⟨ρ1, tm ++ tm', _, ρ2, h2, r2, fun z1 H3 r3 => ?_⟩
    obtain ⟨ps, p', g, f⟩ := id r3
    have e := g.int (x := .d (.int i)) (v := z1) (by simp) rfl
    subst e
    refine ⟨i, rfl, ρ2, tm ++ tm', _, ρ3, h3, r3.left, fun z2 H4 r4 => ?_⟩
    obtain ⟨ps, p', g, f⟩ := id r4
    have e := g.int (x := .d (.int j)) (v := z2) (by simp) rfl
    subst e
    refine ⟨j, rfl, ?_⟩
    obtain ⟨ps, p', g, f⟩ := r4.left
    obtain ⟨_, hm⟩ := o.res p' h4
    refine ⟨x, Φ, ps ++ (tm ++ tm'), w2, g, ?_, h7, fun u H' g' => k u H' ?_⟩
    · rcases List.mem_append.mp (hm (x, y) (by simp)) with m | m
      · simp [m]
      · simp [m]
    · have : RS K Φ fx ρ3 (tm ++ tm' ++ [(w2, u)]) σ H' := ⟨ps, p', by rw [← List.append_assoc]; exact g', f⟩
      exact this.drop
  · cases hd
theorem RS.bl {K : PySem.W.Frag} {ρ : Env} {tm : List Pr} {σ : Sl} {H : Hp} {b : Bool} {y : V} (r : RS K Φ fx ρ (tm ++ [(.d (.bool b), y)]) σ H) : y = .bl b := by
  obtain ⟨ps, p', g, f⟩ := r
  exact g.bool (x := .d (.bool b)) (v := y) (by simp) rfl
theorem not_run {K : PySem.W.Frag} {a : ME} {σ : Sl} {H : Hp} {Q : VK} (h : tD K C Φ fx (.not a) σ H Q) : tNotV (tD K C Φ fx a) σ H Q := by
  obtain ⟨ρ, tm, w, ρ', hd, r, k⟩ := h
  unfold den at hd
  obtain ⟨⟨v, ρ1⟩, h1, hd⟩ := Option.bind_eq_some_iff.mp hd
  obtain ⟨b, h2, hd⟩ := Option.map_eq_some_iff.mp hd
  cases asB_some h2
  cases hd
  exact ⟨ρ, tm, _, _, h1, r, fun y H' r' => by
    have e := r'.bl
    subst e
    exact ⟨b, rfl, k _ _ (r'.left.push fun F => .bl _)⟩⟩
theorem notT_run {K : PySem.W.Frag} {a : ME} {σ : Sl} {H : Hp} {Q : Bool → Hp → Prop} (h : tT K C Φ fx (.not a) σ H Q) : tNot (tT K C Φ fx a) σ H Q := by
  obtain ⟨ρ, tm, w, ρ', hd, r, k⟩ := h
  unfold den at hd
  obtain ⟨⟨v, ρ1⟩, h1, hd⟩ := Option.bind_eq_some_iff.mp hd
  obtain ⟨b, h2, hd⟩ := Option.map_eq_some_iff.mp hd
  cases asB_some h2
  cases hd
  exact ⟨ρ, tm, _, _, h1, r, fun H' r' => k _ r'⟩
theorem and_run {K : PySem.W.Frag} {a b : ME} {σ : Sl} {H : Hp} {Q : VK} (h : tD K C Φ fx (.and a b) σ H Q) : tAndV (tD K C Φ fx a) (tD K C Φ fx b) σ H Q := by
  obtain ⟨ρ, tm, w, ρ', hd, r, k⟩ := h
  unfold den at hd
  obtain ⟨⟨v, ρ1⟩, h1, hd⟩ := Option.bind_eq_some_iff.mp hd
  obtain ⟨c, h2, hd⟩ := Option.bind_eq_some_iff.mp hd
  cases asB_some h2
  refine ⟨ρ, tm, _, _, h1, r, fun y H' r' => ?_⟩
  have e := r'.bl
  subst e
  refine ⟨c, rfl, ?_⟩
  cases c with
  | true => exact ⟨_, tm, _, _, hd, r'.left, k⟩
  | false => cases hd; exact k _ _ r'
theorem or_run {K : PySem.W.Frag} {a b : ME} {σ : Sl} {H : Hp} {Q : VK} (h : tD K C Φ fx (.or a b) σ H Q) : tOrV (tD K C Φ fx a) (tD K C Φ fx b) σ H Q := by
  obtain ⟨ρ, tm, w, ρ', hd, r, k⟩ := h
  unfold den at hd
  obtain ⟨⟨v, ρ1⟩, h1, hd⟩ := Option.bind_eq_some_iff.mp hd
  obtain ⟨c, h2, hd⟩ := Option.bind_eq_some_iff.mp hd
  cases asB_some h2
  refine ⟨ρ, tm, _, _, h1, r, fun y H' r' => ?_⟩
  have e := r'.bl
  subst e
  refine ⟨c, rfl, ?_⟩
  cases c with
  | true => cases hd; exact k _ _ r'
  | false => exact ⟨_, tm, _, _, hd, r'.left, k⟩
theorem andT_run {K : PySem.W.Frag} {a b : ME} {σ : Sl} {H : Hp} {Q : Bool → Hp → Prop} (h : tT K C Φ fx (.and a b) σ H Q) : tAnd (tT K C Φ fx a) (tT K C Φ fx b) σ H Q := by
  obtain ⟨ρ, tm, w, ρ', hd, r, k⟩ := h
  unfold den at hd
  obtain ⟨⟨v, ρ1⟩, h1, hd⟩ := Option.bind_eq_some_iff.mp hd
  obtain ⟨c, h2, hd⟩ := Option.bind_eq_some_iff.mp hd
  cases asB_some h2
  refine ⟨ρ, tm, _, _, h1, r, fun H' r' => ?_⟩
  cases c with
  | true => exact ⟨_, tm, _, _, hd, r', k⟩
  | false => cases hd; exact k _ r'
theorem orT_run {K : PySem.W.Frag} {a b : ME} {σ : Sl} {H : Hp} {Q : Bool → Hp → Prop} (h : tT K C Φ fx (.or a b) σ H Q) : tOr (tT K C Φ fx a) (tT K C Φ fx b) σ H Q := by
  obtain ⟨ρ, tm, w, ρ', hd, r, k⟩ := h
  unfold den at hd
  obtain ⟨⟨v, ρ1⟩, h1, hd⟩ := Option.bind_eq_some_iff.mp hd
  obtain ⟨c, h2, hd⟩ := Option.bind_eq_some_iff.mp hd
  cases asB_some h2
  refine ⟨ρ, tm, _, _, h1, r, fun H' r' => ?_⟩
  cases c with
  | true => cases hd; exact k _ r'
  | false => exact ⟨_, tm, _, _, hd, r', k⟩
theorem ite_run {K : PySem.W.Frag} {c a b : ME} {σ : Sl} {H : Hp} {Q : VK} (h : tD K C Φ fx (.ite c a b) σ H Q) : tIf (tT K C Φ fx c) (tD K C Φ fx a) (tD K C Φ fx b) σ H Q := by
  obtain ⟨ρ, tm, w, ρ', hd, r, k⟩ := h
  unfold den at hd
  obtain ⟨⟨v, ρ1⟩, h1, hd⟩ := Option.bind_eq_some_iff.mp hd
  obtain ⟨d, h2, hd⟩ := Option.bind_eq_some_iff.mp hd
  cases asB_some h2
  refine ⟨ρ, tm, _, _, h1, r, fun H' r' => ?_⟩
  cases d with
  | true => exact ⟨_, tm, _, _, hd, r', k⟩
  | false => exact ⟨_, tm, _, _, hd, r', k⟩
theorem dat_at (K : PySem.W.Frag) (F : Hp) : ∀ c : MK, At K F (match c with
    | .non => .non
    | .bl b => .bl b
    | .int i => .int i
    | .str x => .str x) c.dat
  | .non => .non
  | .bl b => .bl b
  | .int i => .int i
  | .str x => .str x
theorem k_ok {c : MK} {q : Const} {j : Nat} {pos : Pos} (h : constIs c q = true) : PE X (.Constant q j pos) (tD X.K C Φ fx (.k c)) := by
  have go : ∀ {v : V}, (∀ F, At X.K F v c.dat) → ∀ σ H Q, tD X.K C Φ fx (.k c) σ H Q → tC v σ H Q := fun ha σ H Q ⟨ρ, tm, w, ρ', hd, r, k⟩ => by
    simp only [den, Option.some.injEq, Prod.mk.injEq] at hd
    obtain ⟨rfl, rfl⟩ := hd
    exact k _ _ (r.push ha)
  cases c <;> cases q <;> simp only [constIs, Bool.false_eq_true, beq_iff_eq, decide_eq_true_eq] at h
  · exact PE.to pe_non (go fun F => .non)
  · subst h; exact PE.to pe_bl (go fun F => .bl _)
  · subst h; exact PE.to pe_int (go fun F => .int _)
  · subst h; exact PE.to pe_str (go fun F => .str _)
end
end Eng
set_option Elab.async false
set_option linter.all false
set_option maxRecDepth 100000
set_option maxHeartbeats 4000000
/-! Eng15: names, calls, displays, comprehensions, walks. -/
namespace Eng
open PySem PySem.Spec PyProof.Rows L2 StX RZ
section
variable {X : Cx} {C : Ctx} {Φ : Fm} {fx : List (Nat × V)} {S : Sg} {N : List Str} {k : Nat} {sc : Scope}

theorem nameV_ok (g : XG S N C k sc X) {i : Nat} {x : Str} {pos : Pos} (h1 : N[i]? = some x) (h2 : visB sc x = true) (h3 : okName x = true) : PE X (.Name x pos) (tVar i) :=
  pe_var (by rw [g.hN]; exact h1) (by rw [g.hsc]; exact vis_of h2) (okName_of h3).1 (okName_of h3).2
theorem var_ok (g : XG S N C k sc X) {i : Nat} {x : Str} {pos : Pos} (h1 : N[i]? = some x) (h2 : visB sc x = true) (h3 : okName x = true) : PE X (.Name x pos) (tD X.K C Φ fx (.var i)) :=
  PE.to (nameV_ok g h1 h2 h3) fun σ H Q ⟨ρ, tm, v, ρ', hd, r, k⟩ => by
    obtain ⟨y, h1, h2⟩ := r.var hd
    exact ⟨y, h1, k _ _ h2⟩
theorem glob_ok (g : XG S N C k sc X) {i : Nat} {x : Str} {pos : Pos} (h1 : S.gs[i]? = some x) (h2 : kindIs sc x .globalImplicit = true) (h3 : okName x = true) : PE X (.Name x pos) (tD X.K C Φ fx (.glob i)) := by
  cases e : C.gl i with
  | none => exact ⟨fun pins s σ H Q I h => by
      obtain ⟨ρ, tm, v, ρ', hd, r, k⟩ := h
      simp [den, e] at hd⟩
  | some t =>
    obtain ⟨u, v, hm, rv, ha⟩ := g.gl i x t h1 e
    refine PE.to (pe_glob (g.gname h2) hm rv (okName_of h3).1) fun σ H Q ⟨ρ, tm, w, ρ', hd, r, k⟩ => ?_
    simp only [den, e, Option.map_some, Option.some.injEq, Prod.mk.injEq] at hd
    obtain ⟨rfl, rfl⟩ := hd
    exact k _ _ (r.push ha)

/-! ### calls of defs -/
def MEs.len : MEs → Nat
  | .nil => 0
  | .cons _ r => r.len + 1
  | .star _ r => r.len + 1
theorem denOs_len : ∀ {ms : MEs} {ρ : Env} {w : List Opv × Env}, denOs C ms ρ = some w → w.1.length = ms.len
  | .nil, _, _, h => by rw [denOs_nil h]; rfl
  | .star _ _, _, _, h => by simp [denOs] at h
  | .cons m r, _, _, h => by
    obtain ⟨o, ρ1, os, h1, e⟩ := denOs_cons h
    rw [e]
    have := denOs_len h1
    simp only at this
    simp [MEs.len, this]
theorem OpRel.len {σ : Sl} {os : List Opv} {ts : List Pr} {ys : List V} (o : OpRel σ os ts ys) : ys.length = os.length := by
  induction o with
  | nil => rfl
  | sl _ _ ih => simp [ih]
  | vl _ ih => simp [ih]
theorem AllO.len {ms : MEs} {es : List Expr} (a : AllO X C Φ fx ms es) : es.length = ms.len := by
  induction a with
  | nil => rfl
  | cons _ _ _ ih => simp [MEs.len, ih]
theorem fn_run {K : PySem.W.Frag} {f n : Nat} {as : MEs} {σ : Sl} {H : Hp} {Q : VK} (hn : as.len = n) (h : tD K C Φ fx (.fn f as) σ H Q) : tOs K C Φ fx as σ H fun vs H1 => spF K n (C.fn f) vs H1 Q E0 := by
  obtain ⟨ρ, tm, v, ρ', hd, r, k⟩ := h
  unfold den at hd
  obtain ⟨⟨os, ρ1⟩, h1, hd1⟩ := Option.bind_eq_some_iff.mp hd
  obtain ⟨⟨xs, ρ0⟩, h2, hd2⟩ := Option.bind_eq_some_iff.mp hd1
  obtain ⟨⟨w, ws⟩, h3, hd3⟩ := Option.bind_eq_some_iff.mp hd2
  clear hd hd1 hd2
  simp only at h2 h3 hd3
  split at hd3
  · rename_i hl
    cases hd3
    refine os_run as h1 r fun ys tm' H' r' o => call_fin r' o h2 h3 ?_ hl k
    have := denOs_len h1
    simp only at this
    rw [o.len, this, hn]
  · cases hd3
theorem fn_ok (g : XG S N C k sc X) {f : Nat} {as : MEs} {x : Str} {ps : List Str} {kws : List (List Str × List Nat)} {es : List Expr} {p pos : Pos} (hf : S.fs[f]? = some (x, ps, kws)) (hx : kindIs sc x .globalImplicit = true) (hd : okName x = true)
    (hl : es.length = ps.length) (a : AllO X C Φ fx as es) : PE X (.Call (.Name x p) es [] pos) (tD X.K C Φ fx (.fn f as)) := by
  obtain ⟨fa, fd, hm, hk, F, hb, _⟩ := (g.fn f x ps kws hf).ex
  refine ⟨fun pins s σ H Q I h => ?_⟩
  have q := fn_run (n := ps.length) (by rw [← hl]; exact a.len.symm) h
  obtain ⟨pa, st⟩ := a.pa
  refine wpAny_Call_Name_kw (ld_glob I (g.gname hx) hm ?_ (okName_of hd).1)
  cases es with
  | nil =>
    cases a
    exact PySem.W.callWith_K0 I.kIn hk (run_g (us := []) F g.guards g.room hb I .nil q)
  | cons e es =>
    rw [List.all_cons, Bool.and_eq_true] at st
    exact PySem.W.callWith_K (h₀ := X.base) I.ok.mod.kin hk (thn (pa.run pos pins s σ H _ I q) fun us s1 ⟨vs, H1, I1, r, q⟩ => ⟨I1.kIn, run_g F g.guards g.room hb I1 r q⟩) (star_cons st.1) (plain_any st.2)

theorem RS.more {K : PySem.W.Frag} {ρ : Env} {tm : List Pr} {σ : Sl} {H : Hp} : ∀ {us : List Pr}, RS K Φ fx ρ tm σ H → (∀ q ∈ us, q ∈ tm ∧ isOw q = false) → RS K Φ fx ρ (tm ++ us) σ H := by
  intro us
  induction us generalizing tm with
  | nil => intro r _; rw [List.append_nil]; exact r
  | cons q us ih =>
    intro r h
    have hq := h q List.mem_cons_self
    have r1 : RS K Φ fx ρ (tm ++ [q]) σ H := by
      obtain ⟨ps, p, g, f⟩ := r
      obtain ⟨x, v⟩ := q
      cases x with
      | d t => exact ⟨ps, p, by rw [← List.append_assoc]; exact g.add (g.atD (List.mem_append_right _ hq.1)), f⟩
      | own ts => exact absurd hq.2 (by simp [isOw, owA])
    rw [List.append_cons]
    exact ih r1 fun z hz => ⟨List.mem_append_left _ (h z (List.mem_cons_of_mem _ hz)).1, (h z (List.mem_cons_of_mem _ hz)).2⟩
theorem RS.frz {K : PySem.W.Frag} {ρ : Env} {tm : List Pr} {σ : Sl} {H : Hp} {xs : List Val} {ys : List V} (r : RS K Φ fx ρ (tm ++ xs.zip ys) σ H) (l : ys.length = xs.length) : RS K Φ fx ρ (tm ++ (xs.map fun x => Val.d x.dat).zip ys) σ H := by
  obtain ⟨ps, p, g, f⟩ := r
  rw [← List.append_assoc] at g
  exact ⟨ps, p, by rw [← List.append_assoc]; exact g.frzAll l, f⟩
theorem pick_zip {α β : Type} {xs : List α} {ys : List β} (hl : ys.length = xs.length) : ∀ {perm : List Nat} {zs : List α}, pick xs perm = some zs → ∃ ws, pick ys perm = some ws ∧ ws.length = zs.length ∧ ∀ q ∈ zs.zip ws, q ∈ xs.zip ys
  | [], zs, h => by
    cases h
    exact ⟨[], rfl, rfl, fun q hq => by simp at hq⟩
  | i :: perm, zs, h => by
    unfold pick at h
    obtain ⟨x, h1, h2⟩ := Option.bind_eq_some_iff.mp h
    obtain ⟨zs', h3, rfl⟩ := Option.map_eq_some_iff.mp h2
    obtain ⟨ws, h4, h5, h6⟩ := pick_zip (ys := ys) hl h3
    have hi : i < ys.length := by
      rcases Nat.lt_or_ge i xs.length with z | z
      · rw [hl]; exact z
      · rw [List.getElem?_eq_none z] at h1; cases h1
    have hy : ys[i]? = some ys[i] := by simp [hi]
    refine ⟨ys[i] :: ws, by unfold pick; rw [hy, h4]; rfl, by simp [h5], fun q hq => ?_⟩
    rw [List.zip_cons_cons] at hq
    rcases List.mem_cons.mp hq with rfl | hq
    · exact List.mem_of_getElem? (i := i) (by rw [List.getElem?_zip_eq_some]; exact ⟨h1, hy⟩)
    · exact h6 q hq
theorem pick_len {α : Type} {xs : List α} : ∀ {perm : List Nat} {zs : List α}, pick xs perm = some zs → zs.length = perm.length
  | [], zs, h => by cases h; rfl
  | i :: perm, zs, h => by
    unfold pick at h
    obtain ⟨x, h1, h2⟩ := Option.bind_eq_some_iff.mp h
    obtain ⟨zs', h3, rfl⟩ := Option.map_eq_some_iff.mp h2
    simp [pick_len h3]
theorem pick_vals : ∀ {perm : List Nat} {zs vs : List V} {ws : List Value}, Vals zs ws → pick zs perm = some vs → ∃ us, pick ws perm = some us ∧ Vals vs us
  | [], zs, vs, ws, _, h => by
    cases h
    exact ⟨[], rfl, .nil⟩
  | i :: perm, zs, vs, ws, r, h => by
    unfold pick at h
    obtain ⟨x, h1, h2⟩ := Option.bind_eq_some_iff.mp h
    obtain ⟨zs', h3, rfl⟩ := Option.map_eq_some_iff.mp h2
    obtain ⟨us, h4, h5⟩ := pick_vals r h3
    obtain ⟨u, hu, ru⟩ := r.get h1
    exact ⟨u :: us, by unfold pick; rw [hu, h4]; rfl, .cons ru h5⟩
theorem takeAll_vl : ∀ {xs : List Val} {ρ : Env}, takeAll (xs.map Opv.vl) ρ = some (xs, ρ)
  | [], _ => rfl
  | x :: xs, ρ => by
    simp only [List.map_cons, takeAll, takeAll_vl (xs := xs), Option.map_some]
theorem putAll_vl : ∀ {xs zs ws : List Val} {ρ : Env}, putAll (xs.map Opv.vl) zs ws ρ = ρ
  | [], _, _, _ => by unfold putAll; rfl
  | x :: xs, [], _, _ => by simp [putAll]
  | x :: xs, z :: zs, [], _ => by simp [putAll]
  | x :: xs, z :: zs, w :: ws, ρ => by
    simp only [List.map_cons, putAll, putAll_vl (xs := xs)]
theorem opRel_vl {σ : Sl} : ∀ {xs : List Val} {ys : List V}, ys.length = xs.length → OpRel σ (xs.map Opv.vl) (xs.zip ys) ys
  | [], [], _ => .nil
  | [], _ :: _, h => by simp at h
  | _ :: _, [], h => by simp at h
  | x :: xs, y :: ys, h => by
    rw [List.map_cons, List.zip_cons_cons]
    exact .vl (opRel_vl (by simpa using h))
theorem denVs_len : ∀ {ms : MEs} {ρ : Env} {w : List Val × Env}, noStars ms = true → denVs C ms ρ = some w → w.1.length = ms.len
  | .nil, _, _, _, h => by
    simp only [denVs, Option.some.injEq] at h
    rw [← h]; rfl
  | .star _ _, _, _, n, _ => by simp [noStars] at n
  | .cons m r, _, _, n, h => by
    unfold denVs at h
    obtain ⟨v, h1, h2⟩ := Option.bind_eq_some_iff.mp h
    obtain ⟨u, h3, rfl⟩ := Option.map_eq_some_iff.mp h2
    have := denVs_len (by simpa [noStars] using n) h3
    simp [MEs.len, this]
theorem fnK_run {K : PySem.W.Frag} {f n : Nat} {perm : List Nat} {as : MEs} {σ : Sl} {H : Hp} {Q : VK} (hs : noStars as = true) (hn : perm.length = n) (h : tD K C Φ fx (.fnK f perm as) σ H Q) :
    tVs K C Φ fx as σ H fun zs H1 => zs.length = as.len ∧ ∃ vs, pick zs perm = some vs ∧ spF K n (C.fn f) vs H1 Q E0 := by
  obtain ⟨ρ, tm, v, ρ', hd, r, k⟩ := h
  unfold den at hd
  obtain ⟨⟨xs, ρ1⟩, h1, hd1⟩ := Option.bind_eq_some_iff.mp hd
  obtain ⟨zs, h2, hd2⟩ := Option.bind_eq_some_iff.mp hd1
  obtain ⟨⟨w, ws⟩, h3, hd3⟩ := Option.bind_eq_some_iff.mp hd2
  clear hd hd1 hd2
  simp only at h2 h3 hd3
  split at hd3
  · rename_i hl
    cases hd3
    refine vs_run as h1 r fun ys H' l r' => ?_
    have r1 := r'.frz l
    obtain ⟨vs, e1, l1, m1⟩ := pick_zip (ys := ys) (by rw [List.length_map]; exact l) h2
    have r2 := r1.more (us := zs.zip vs) fun q hq => ⟨List.mem_append_right _ (m1 q hq), by
      have := m1 q hq
      obtain ⟨x, _, e⟩ := List.mem_map.mp (List.of_mem_zip (show (q.1, q.2) ∈ _ from this)).1
      obtain ⟨q1, q2⟩ := q
      simp only at e
      subst e
      simp [isOw, owA]⟩
    refine ⟨by rw [l]; exact denVs_len hs h1, vs, e1, call_fin r2.drop (opRel_vl l1) takeAll_vl h3 (by rw [l1, pick_len h2, hn]) hl fun y H2 r3 => ?_⟩
    rw [putAll_vl] at r3
    exact k y H2 r3
  · cases hd3
/-- the values of keywords beside their own -/
inductive AllK (X : Cx) (C : Ctx) (Φ : Fm) (fx : List (Nat × V)) : MEs → List Keyword → Prop
  | nil : AllK X C Φ fx .nil []
  | cons {m : ME} {r : MEs} {nm : Option Str} {e : Expr} {kp : Pos} {ks : List Keyword} : nm.isSome = true → PE X e (tD X.K C Φ fx m) → AllK X C Φ fx r ks → AllK X C Φ fx (.cons m r) (⟨nm, e, kp⟩ :: ks)
theorem AllK.pk {ms : MEs} {ks : List Keyword} (a : AllK X C Φ fx ms ks) : PK X ks (tVs X.K C Φ fx ms) := by
  induction a with
  | nil => exact pk_nil
  | cons _ h _ ih => exact pk_cons h ih
theorem AllK.looks {ms : MEs} {ks : List Keyword} (a : AllK X C Φ fx ms ks) (pos : Pos) (env : PySem.Env) : (backToKw pos (keywordEach ks env)).all (·.1.isSome) = true ∧ (backToKw pos (keywordEach ks env)).any (·.1.isNone) = false ∧ (backToKw pos (keywordEach ks env)).filterMap (·.1) = kwNames ks := by
  induction a with
  | nil => exact ⟨rfl, rfl, rfl⟩
  | @cons m r nm e kp ks h _ _ ih =>
    obtain ⟨i1, i2, i3⟩ := ih
    cases nm with
    | none => cases h
    | some y =>
      refine ⟨?_, ?_, ?_⟩
      · show (true && (backToKw pos (keywordEach ks env)).all (·.1.isSome)) = true
        rw [i1]; rfl
      · show (false || (backToKw pos (keywordEach ks env)).any (·.1.isNone)) = false
        rw [i2]; rfl
      · show y :: (backToKw pos (keywordEach ks env)).filterMap (·.1) = y :: kwNames ks
        rw [i3]
theorem AllK.len {ms : MEs} {ks : List Keyword} (a : AllK X C Φ fx ms ks) : (kwNames ks).length = ms.len ∧ noStars ms = true := by
  induction a with
  | nil => exact ⟨rfl, rfl⟩
  | @cons m r nm e kp ks h _ _ ih =>
    cases nm with
    | none => cases h
    | some y => exact ⟨by show (y :: kwNames ks).length = _; simp [ih.1, MEs.len], by simp [noStars, ih.2]⟩
theorem fnK_ok (g : XG S N C k sc X) {f : Nat} {perm : List Nat} {as : MEs} {x : Str} {ps : List Str} {kws : List (List Str × List Nat)} {ks : List Keyword} {p pos : Pos} (hf : S.fs[f]? = some (x, ps, kws)) (hx : kindIs sc x .globalImplicit = true) (hd : okName x = true)
    (hp : perm.length = ps.length) (hk : (kwNames ks, perm) ∈ kws) (a : AllK X C Φ fx as ks) : PE X (.Call (.Name x p) [] ks pos) (tD X.K C Φ fx (.fnK f perm as)) := by
  obtain ⟨fa, fd, hm, hk1, F, _, hb⟩ := (g.fn f x ps kws hf).ex
  refine ⟨fun pins s σ H Q I h => ?_⟩
  have q := fnK_run a.len.2 hp h
  obtain ⟨l1, l2, l3⟩ := a.looks pos X.env
  refine wpAny_Call_Name_kw (ld_glob I (g.gname hx) hm ?_ (okName_of hd).1)
  refine PySem.W.callWith_KW0 (h₀ := X.base) I.ok.mod.kin hk1 l1 (thn (a.pk.run pos pins s σ H _ I q) fun ws s1 ⟨zs, H1, I1, r, l, vs, e, q⟩ => ⟨I1.kIn, ?_⟩) (by rw [l2]; rfl)
  rw [l3]
  obtain ⟨us, e2, r2⟩ := pick_vals r e
  exact run_gk F g.guards g.room (hb _ hk ws us (by rw [← r.length, l, a.len.1]) e2) I1 r2 q

/-! ### displays -/
theorem tup_run {K : PySem.W.Frag} {as : MEs} {σ : Sl} {H : Hp} {Q : VK} (h : tD K C Φ fx (.tup as) σ H Q) : tTup (tVs K C Φ fx as) σ H Q := by
  obtain ⟨ρ, tm, v, ρ', hd, r, k⟩ := h
  unfold den at hd
  obtain ⟨⟨xs, ρ1⟩, h1, hd1⟩ := Option.bind_eq_some_iff.mp hd
  clear hd
  simp only at hd1
  split at hd1
  · rename_i hl
    cases hd1
    exact vs_run as h1 r fun ys H' l r' => ⟨by rw [l]; exact Nat.le_trans hl szLine, fun p hp => k _ _ (r'.made l hp).1⟩
  · cases hd1
theorem lst_run {K : PySem.W.Frag} {as : MEs} {σ : Sl} {H : Hp} {Q : VK} (h : tD K C Φ fx (.lst as) σ H Q) : tLst (tVs K C Φ fx as) σ H Q := by
  obtain ⟨ρ, tm, v, ρ', hd, r, k⟩ := h
  unfold den at hd
  obtain ⟨⟨xs, ρ1⟩, h1, hd1⟩ := Option.bind_eq_some_iff.mp hd
  clear hd
  simp only at hd1
  split at hd1
  · rename_i hl
    cases hd1
    exact vs_run as h1 r fun ys H' l r' => ⟨by rw [l]; exact Nat.le_trans hl szLine, fun p hp => k _ _ (r'.made l hp).2⟩
  · cases hd1
theorem dic_ok {pos : Pos} : PE X (.Dict [] [] pos) (tD X.K C Φ fx .dic) :=
  PE.to pe_dnewK fun σ H Q ⟨ρ, tm, v, ρ', hd, r, k⟩ p hp => by
    simp only [den, Option.some.injEq, Prod.mk.injEq] at hd
    obtain ⟨rfl, rfl⟩ := hd
    exact k _ _ (r.hand fun ps g => by rw [← List.append_assoc]; exact g.newDic hp)

/-! ### what is walked -/
def iSeq (K : PySem.W.Frag) (tl : TE) : TI := fun σ H R => tl σ H fun x H1 => ∃ a, x = .ref a ∧ (((∃ xs, SqL K H1 a xs) ∧ R (Itl K a) H1) ∨ ((∃ xs, SqT K H1 a xs) ∧ R (Itt K a) H1))
theorem pi_seq {tg l : Expr} {tl : TE} (hl : PE X l tl) : PI X tg l (iSeq X.K tl) := by
  refine ⟨fun pins s σ H R I h => thn (hl.run pins s σ H _ I h) fun v s1 ⟨x, H1, I1, r1, a, e, q1⟩ => ?_⟩
  subst e
  cases r1
  have fresh : ∀ b, b ∈ [s1.heap.objs.size] → FpOk X pins H1 b := fun b hb => by
    have e : b = s1.heap.objs.size := by simpa using hb
    rw [e]
    exact I1.fpOk (Nat.le_refl _) (I1.hok.fresh (Nat.le_refl _))
  rcases q1 with ⟨⟨xs, hq⟩, q⟩ | ⟨⟨xs, hq⟩, q⟩
  · obtain ⟨its, rv, p, hz⟩ := I1.list hq
    exact wpAny_pyIter_list p.isList ⟨s1.heap.objs.size, [s1.heap.objs.size], _, _, H1, rfl, I1.kept (t' := s1.toks) fun b o e => Heap.get?_push_of_some _ e, turn_list a _, ⟨_, Heap.get?_push_size _ rfl, rfl, rfl⟩, fresh, q⟩
  · obtain ⟨its, rv, p, hz⟩ := I1.tuple hq
    exact wpAny_pyIter_tuple (show s1.heap.IsTuple a its.toArray from p) ⟨s1.heap.objs.size, [s1.heap.objs.size], _, _, H1, rfl, I1.kept (t' := s1.toks) fun b o e => Heap.get?_push_of_some _ e, turn_tuple a _, ⟨_, Heap.get?_push_size _ rfl, rfl, rfl⟩, fresh, q⟩
theorem seqOf_two {t : D} {xs : List D} (h : seqOf t = some xs) : t = .list xs ∨ t = .tuple xs := by
  cases t <;> simp [seqOf] at h <;> simp [h]
theorem val_run {K : PySem.W.Frag} {e : ME} {σ : Sl} {H : Hp} {R : It → Hp → Prop} (h : tI K C Φ fx (.val e) σ H R) : iSeq K (tD K C Φ fx e) σ H R := by
  obtain ⟨ρ, tm, ds, ρ', hd, r, k⟩ := h
  unfold denI at hd
  obtain ⟨⟨v, ρ1⟩, h1, hd1⟩ := Option.bind_eq_some_iff.mp hd
  obtain ⟨xs, h2, hd2⟩ := Option.map_eq_some_iff.mp hd1
  clear hd hd1
  cases hd2
  refine ⟨ρ, tm, _, _, h1, r, fun y H' r' => ?_⟩
  obtain ⟨ps, p, g, f⟩ := id r'
  rw [← List.append_assoc] at g
  have m : (v, y) ∈ ps ++ tm ++ [(v, y)] := by simp
  rcases seqOf_two h2 with e | e
  · obtain ⟨a, vs, rfl, q, aa⟩ := g.seqL m e
    exact ⟨a, rfl, .inl ⟨⟨vs, q.sq⟩, k _ _ _ r' (itl_ok e)⟩⟩
  · obtain ⟨a, vs, rfl, q, aa⟩ := g.seqT m e
    exact ⟨a, rfl, .inr ⟨⟨vs, q⟩, k _ _ _ r' (itt_ok e)⟩⟩
theorem okR_of {i : Int} (h : okR i = true) : -(2 ^ 62) ≤ i ∧ i < 2 ^ 62 := by
  have := of_decide_eq_true h
  omega
theorem rng1_run {K : PySem.W.Frag} {e : ME} {σ : Sl} {H : Hp} {R : It → Hp → Prop} (h : tI K C Φ fx (.rng1 e) σ H R) : iRng1 (tCons (tD K C Φ fx e) tNil) σ H R := by
  obtain ⟨ρ, tm, ds, ρ', hd, r, k⟩ := h
  unfold denI at hd
  obtain ⟨⟨v, ρ1⟩, h1, hd1⟩ := Option.bind_eq_some_iff.mp hd
  clear hd
  simp only at hd1
  split at hd1
  · rename_i j ej
    split at hd1
    · rename_i hj
      cases hd1
      refine ⟨ρ, tm, _, _, h1, r, fun y H' r' => ?_⟩
      obtain ⟨ps, p, g, f⟩ := id r'
      have e := g.int (x := v) (v := y) (by simp) ej
      subst e
      exact ⟨j, rfl, (okR_of hj).1, (okR_of hj).2, k _ [] _ (by rw [List.append_nil]; exact r'.left) itr_ok⟩
    · cases hd1
  · cases hd1
theorem rng2_run {K : PySem.W.Frag} {e e2 : ME} {σ : Sl} {H : Hp} {R : It → Hp → Prop} (h : tI K C Φ fx (.rng2 e e2) σ H R) : iRng2 (tCons (tD K C Φ fx e) (tCons (tD K C Φ fx e2) tNil)) σ H R := by
  obtain ⟨ρ, tm, ds, ρ', hd, r, k⟩ := h
  unfold denI at hd
  obtain ⟨⟨v, ρ1⟩, h1, hd1⟩ := Option.bind_eq_some_iff.mp hd
  obtain ⟨⟨w, ρ2⟩, h2, hd2⟩ := Option.bind_eq_some_iff.mp hd1
  clear hd hd1
  simp only at h2 hd2
  split at hd2
  · rename_i i j ei ej
    split at hd2
    · rename_i hj
      rw [Bool.and_eq_true] at hj
      cases hd2
      refine ⟨ρ, tm, _, _, h1, r, fun y H' r' => ?_⟩
      obtain ⟨ps, p, g, f⟩ := id r'
      have e := g.int (x := v) (v := y) (by simp) ei
      subst e
      refine ⟨_, _, _, _, h2, r'.left, fun z H2 r2 => ?_⟩
      obtain ⟨ps, p, g, f⟩ := id r2
      have e := g.int (x := w) (v := z) (by simp) ej
      subst e
      exact ⟨i, j, rfl, ⟨(okR_of hj.1).1, (okR_of hj.1).2, (okR_of hj.2).1, (okR_of hj.2).2⟩, k _ [] _ (by rw [List.append_nil]; exact r2.left) itr_ok⟩
    · cases hd2
  · cases hd2
theorem zip_run {K : PySem.W.Frag} {e e2 : ME} {σ : Sl} {H : Hp} {R : It → Hp → Prop} (h : tI K C Φ fx (.zip e e2) σ H R) : iZipA K (tCons (tD K C Φ fx e) (tCons (tD K C Φ fx e2) tNil)) σ H R := by
  obtain ⟨ρ, tm, ds, ρ', hd, r, k⟩ := h
  unfold denI at hd
  obtain ⟨⟨v, ρ1⟩, h1, hd1⟩ := Option.bind_eq_some_iff.mp hd
  obtain ⟨⟨w, ρ2⟩, h2, hd2⟩ := Option.bind_eq_some_iff.mp hd1
  clear hd hd1
  simp only at h2 hd2
  refine ⟨ρ, tm, _, _, h1, r, fun y H' r' => ⟨_, _, _, _, h2, r', fun z H2 r2 => ?_⟩⟩
  obtain ⟨ps, p, g, f⟩ := id r2
  have m1 : (v, y) ∈ ps ++ (tm ++ [(v, y)] ++ [(w, z)]) := by simp
  have m2 : (w, z) ∈ ps ++ (tm ++ [(v, y)] ++ [(w, z)]) := by simp
  have r3 : RS K Φ fx ρ2 (tm ++ [(v, y), (w, z)]) σ H2 := by
    have := r2
    rwa [List.append_assoc] at this
  split at hd2
  · rename_i xs ys ei ej
    cases hd2
    obtain ⟨a, vs, rfl, q, aa⟩ := g.seqL m1 ei
    obtain ⟨b, us, rfl, q2, bb⟩ := g.seqL m2 ej
    exact ⟨a, b, vs, us, rfl, .inl ⟨q.sq, q2.sq, k _ _ _ r3 (itz_ok ei ej)⟩⟩
  · rename_i xs ys ei ej
    cases hd2
    obtain ⟨a, vs, rfl, q, aa⟩ := g.seqT m1 ei
    obtain ⟨b, us, rfl, q2, bb⟩ := g.seqT m2 ej
    exact ⟨a, b, vs, us, rfl, .inr ⟨q, q2, k _ _ _ r3 (itzT_ok ei ej)⟩⟩
  · cases hd2
theorem enum_run {K : PySem.W.Frag} {e : ME} {σ : Sl} {H : Hp} {R : It → Hp → Prop} (h : tI K C Φ fx (.enum e) σ H R) : iEnumA K (tCons (tD K C Φ fx e) tNil) σ H R := by
  obtain ⟨ρ, tm, ds, ρ', hd, r, k⟩ := h
  unfold denI at hd
  obtain ⟨⟨v, ρ1⟩, h1, hd1⟩ := Option.bind_eq_some_iff.mp hd
  clear hd
  simp only at hd1
  refine ⟨ρ, tm, _, _, h1, r, fun y H' r' => ?_⟩
  split at hd1
  · rename_i xs ei
    cases hd1
    obtain ⟨ps, p, g, f⟩ := id r'
    obtain ⟨a, vs, rfl, q, aa⟩ := g.seqL (x := v) (v := y) (by simp) ei
    exact ⟨a, rfl, .inl ⟨⟨vs, q.sq⟩, k _ _ _ r' (ite_ok ei)⟩⟩
  · rename_i xs ei
    cases hd1
    obtain ⟨ps, p, g, f⟩ := id r'
    obtain ⟨a, vs, rfl, q, aa⟩ := g.seqT (x := v) (v := y) (by simp) ei
    exact ⟨a, rfl, .inr ⟨⟨vs, q⟩, k _ _ _ r' (iteT_ok ei)⟩⟩
  · cases hd1
theorem folded_of {e : Expr} {env : PySem.Env} (h : notSet e = true) : ∀ x, foldedSetIterable e env x = pure x := by
  intro x
  cases e <;> first | rfl | cases h

/-! ### the context of a block -/
theorem XG.blk (g : XG S N C k sc X) (s : Shared) (H : Hp) (scope : Scope) (cl : List (Str × Addr)) (c : Addr) (fp : List Addr) : XG S N C k (relS scope sc) (X.blk s H scope (compEnvC scope cl c X.env) fp) where
  hN := g.hN
  hsc := by
    have := g.hsc
    subst this
    rfl
  calm := g.calm
  nd := g.nd
  guards := g.guards
  room := g.room
  bl := g.bl
  gcd := g.gcd
  gl := g.gl
  fn := fun i x ps kws h => ⟨(g.fn i x ps kws h).ex⟩
theorem blk_hok (g : XG S N C k sc X) (s : Shared) (H : Hp) (scope : Scope) (cl : List (Str × Addr)) (c : Addr) (fp : List Addr) : ∀ x, okBlk scope x = true →
    Loc (X.blk s H scope (compEnvC scope cl c X.env) fp).env.scope x ∧ ((X.blk s H scope (compEnvC scope cl c X.env) fp).fn x = true ∨ (X.blk s H scope (compEnvC scope cl c X.env) fp).env.scope.names.lookup x = some .local) := by
  intro x h
  unfold okBlk kindIs at h
  rw [Bool.or_eq_true, decide_eq_true_eq, decide_eq_true_eq] at h
  rcases h with h | h
  · have := lookup_relS_keep (sc := X.env.scope) (k := .local) (by decide) h
    exact ⟨.inl this, .inr this⟩
  · have := lookup_relS_keep (sc := X.env.scope) (k := .cell) (by decide) h
    exact ⟨.inr this, .inl (by show (scope.names.lookup x == some .cell) = true; rw [h]; rfl)⟩
end
end Eng
set_option Elab.async false
set_option linter.all false
set_option maxRecDepth 100000
set_option maxHeartbeats 4000000
/-! Eng16: expressions keep to the evaluator. -/
namespace Eng
open PySem PySem.Spec PyProof.Rows L2 StX RZ
theorem lastMarks2 {o1 o2 : CmpOp} {b d : Expr} (h : notSet d = true) : lastMarks [o1, o2] [b, d] = false := by
  show behindInMarks o2 d = false
  exact inMarks h
section
variable {X : Cx} {C : Ctx} {Φ : Fm} {fx : List (Nat × V)} {S : Sg} {N : List Str} {k : Nat} {sc : Scope}
theorem opr_of (g : XG S N C k sc X) {p : Prim} {op : CmpOp} (hb : cmpOf p = some op) : OpR X (compareOp op) (fun x y => rP X.K p [x, y]) := by
  have hu := g.units
  cases p <;> simp only [cmpOf, Option.some.injEq, reduceCtorEq] at hb <;> subst hb
  · exact or_eq (by omega)
  · exact or_ne (by omega)
  · exact or_lt
  · exact or_le
  · exact or_gt
  · exact or_ge
  · exact or_in (by omega)
  · exact or_notin (by omega)
theorem chain_ok (g : XG S N C k sc X) {p q : Prim} {o1 o2 : CmpOp} {a b d : Expr} {pos : Pos} {m1 m2 m3 : ME} (hp : cmpOf p = some o1) (hq : cmpOf q = some o2) (hd : notSet d = true) (h1 : PE X a (tO X.K C Φ fx m1)) (h2 : PE X b (tO X.K C Φ fx m2)) (h3 : PE X d (tO X.K C Φ fx m3)) :
    PE X (.Compare a [o1, o2] [b, d] pos) (tD X.K C Φ fx (.chain p q (.cons m1 (.cons m2 .nil)) (.cons m3 .nil))) ∧ PT X (.Compare a [o1, o2] [b, d] pos) (tT X.K C Φ fx (.chain p q (.cons m1 (.cons m2 .nil)) (.cons m3 .nil))) :=
  ⟨PE.to (pe_chain (opr_of g hp) (opr_of g hq) h1 h2 h3 (lastMarks2 hd)) fun σ H Q h => chain_run h,
    PT.to (pt_chain (opr_of g hp) (opr_of g hq) h1 h2 h3 (lastMarks2 hd)) fun σ H Q h => chain_run (tT_of h)⟩
end
section
variable {C : Ctx} {Φ : Fm} {S : Sg} {N : List Str} {k : Nat} {F : List Nat}
theorem plain3 {X : Cx} {fx : List (Nat × V)} {m : ME} {e : Expr} (pe : PE X e (tD X.K C Φ fx m)) (hp : plainTest e = true) (hb : isBo m = false) : PE X e (tD X.K C Φ fx m) ∧ (tst m = true → PT X e (tT X.K C Φ fx m)) ∧ (isBo m = true → tst m = true → PW X e (tT X.K C Φ fx m)) :=
  ⟨pe, fun _ => pt_of pe hp, fun h => by rw [hb] at h; cases h⟩
theorem kwVals_cons {n : Option Str} {v : Expr} {p : Pos} {r : List Keyword} : kwVals (⟨n, v, p⟩ :: r) = v :: kwVals r := rfl
/-- an operand's reading -/
theorem toO {X : Cx} {sc : Scope} {fx : List (Nat × V)} {m : ME} {e : Expr} (g : XG S N C k sc X) (h : chkE S N F sc m e = true) (pe : PE X e (tD X.K C Φ fx m)) : PE X e (tO X.K C Φ fx m) := by
  cases m with
  | var i =>
    unfold chkE at h
    split at h
    · rename_i x pos
      simp only [Bool.and_eq_true, decide_eq_true_eq] at h
      exact nameV_ok g h.1.1 h.1.2 h.2
    · cases h
  | _ => exact pe
mutual
theorem sE : ∀ (m : ME) {X : Cx} {sc : Scope} {fx : List (Nat × V)} {e : Expr}, XG S N C k sc X → (∀ p ∈ fx, p.1 ∈ F) → chkE S N F sc m e = true →
    PE X e (tD X.K C Φ fx m) ∧ (tst m = true → PT X e (tT X.K C Φ fx m)) ∧ (isBo m = true → tst m = true → PW X e (tT X.K C Φ fx m))
  | .var i, X, sc, fx, e, g, hf, h => by
    unfold chkE at h
    split at h
    · rename_i x pos
      simp only [Bool.and_eq_true, decide_eq_true_eq] at h
      exact plain3 (var_ok g h.1.1 h.1.2 h.2) rfl rfl
    · cases h
  | .k c, X, sc, fx, e, g, hf, h => by
    unfold chkE at h
    split at h
    · exact plain3 (k_ok h) rfl rfl
    · cases h
  | .glob i, X, sc, fx, e, g, hf, h => by
    unfold chkE at h
    split at h
    · rename_i x pos
      simp only [Bool.and_eq_true, decide_eq_true_eq] at h
      exact plain3 (glob_ok g h.1.1 h.1.2 h.2) rfl rfl
    · cases h
  | .prim p as, X, sc, fx, e, g, hf, h => by
    unfold chkE at h
    rw [Bool.and_eq_true, decide_eq_true_eq] at h
    obtain ⟨h1, h2⟩ := h
    split at h2
    · rename_i es hs
      have o := sOs as g hf h2
      exact ⟨prim_ok g h1 hs o, fun _ => prim_okT g h1 hs o, fun z => by cases z⟩
    · cases h2
  | .chain p q as c, X, sc, fx, e, g, hf, h => by
    unfold chkE at h
    split at h
    · rename_i a o1 o2 b d pos
      simp only [Bool.and_eq_true, decide_eq_true_eq] at h
      obtain ⟨⟨⟨⟨⟨h1, h2⟩, h3⟩, h4⟩, h5⟩, h6⟩ := h
      have oa := sOs as g hf h5
      have oc := sOs c g hf h6
      cases oa with
      | cons n1 a1 oa =>
        cases oa with
        | cons n2 a2 oa =>
          cases oa
          cases oc with
          | cons n3 a3 oc =>
            cases oc
            have z := chain_ok (pos := pos) g h1 h2 h4 a1 a2 a3
            exact ⟨z.1, fun _ => z.2, fun z => by cases z⟩
    · cases h
  | .cut as lo hi, X, sc, fx, e, g, hf, h => by
    unfold chkE at h
    split at h
    · rename_i a l hh p2 pos
      simp only [Bool.and_eq_true] at h
      obtain ⟨⟨h1, h2⟩, h3⟩ := h
      have oa := sOs as g hf h1
      have pl := (sE lo g hf h2).1
      have ph := (sE hi g hf h3).1
      cases oa with
      | cons n1 a1 oa =>
        cases oa
        exact plain3 (PE.to (pe_slice sr_sl a1 (po_some pl) (po_some ph)) fun σ H Q q => cut_run q) rfl rfl
    · cases h
  | .not a, X, sc, fx, e, g, hf, h => by
    unfold chkE at h
    split at h
    · rename_i x pos
      have z := sE a g hf h
      exact ⟨PE.to (pe_not z.1) fun σ H Q q => not_run q, fun t => PT.to (pt_not (z.2.1 t)) fun σ H Q q => notT_run q, fun z => by cases z⟩
    · cases h
  | .and a b, X, sc, fx, e, g, hf, h => by
    unfold chkE at h
    split at h
    · rename_i x y r pos
      rw [Bool.and_eq_true] at h
      have za := sE a g hf h.1
      cases r with
      | nil =>
        have zb := sE b g hf h.2
        have pw : tst (.and a b) = true → PW X (.BoolOp .And [x, y] pos) (tT X.K C Φ fx (.and a b)) := fun t => by
          simp only [tst, Bool.and_eq_true] at t
          exact PW.to (pw_and (za.2.1 t.1) (pw_and1 (zb.2.1 t.2))) fun σ H Q q => andT_run q
        exact ⟨PE.to (pe_and za.1 (pe_one zb.1)) fun σ H Q q => and_run q, fun t => (pw t).pt, fun _ => pw⟩
      | cons y2 r2 =>
        have h2 := h.2
        simp only [Bool.and_eq_true] at h2
        have zb := sE b g hf h2.2
        have pw : tst (.and a b) = true → PW X (.BoolOp .And (x :: y :: y2 :: r2) pos) (tT X.K C Φ fx (.and a b)) := fun t => by
          simp only [tst, Bool.and_eq_true] at t
          exact PW.to (pw_and (za.2.1 t.1) (zb.2.2 h2.1 t.2)) fun σ H Q q => andT_run q
        exact ⟨PE.to (pe_and za.1 zb.1) fun σ H Q q => and_run q, fun t => (pw t).pt, fun _ => pw⟩
    · cases h
  | .or a b, X, sc, fx, e, g, hf, h => by
    unfold chkE at h
    split at h
    · rename_i x y r pos
      rw [Bool.and_eq_true] at h
      have za := sE a g hf h.1
      cases r with
      | nil =>
        have zb := sE b g hf h.2
        have pw : tst (.or a b) = true → PW X (.BoolOp .Or [x, y] pos) (tT X.K C Φ fx (.or a b)) := fun t => by
          simp only [tst, Bool.and_eq_true] at t
          exact PW.to (pw_or (za.2.1 t.1) (pw_or1 (zb.2.1 t.2))) fun σ H Q q => orT_run q
        exact ⟨PE.to (pe_or za.1 (pe_one zb.1)) fun σ H Q q => or_run q, fun t => (pw t).pt, fun _ => pw⟩
      | cons y2 r2 =>
        have h2 := h.2
        simp only [Bool.and_eq_true] at h2
        have zb := sE b g hf h2.2
        have pw : tst (.or a b) = true → PW X (.BoolOp .Or (x :: y :: y2 :: r2) pos) (tT X.K C Φ fx (.or a b)) := fun t => by
          simp only [tst, Bool.and_eq_true] at t
          exact PW.to (pw_or (za.2.1 t.1) (zb.2.2 h2.1 t.2)) fun σ H Q q => orT_run q
        exact ⟨PE.to (pe_or za.1 zb.1) fun σ H Q q => or_run q, fun t => (pw t).pt, fun _ => pw⟩
    · cases h
  | .ite c a b, X, sc, fx, e, g, hf, h => by
    unfold chkE at h
    split at h
    · rename_i ce ae be pos
      simp only [Bool.and_eq_true] at h
      obtain ⟨⟨⟨h1, h2⟩, h3⟩, h4⟩ := h
      exact ⟨PE.to (pe_ifExp ((sE c g hf h1).2.1 h2) (sE a g hf h3).1 (sE b g hf h4).1) fun σ H Q q => ite_run q, fun t => by simp [tst] at t, fun z => by cases z⟩
    · cases h
  | .fn f as, X, sc, fx, e, g, hf, h => by
    unfold chkE at h
    split at h
    · rename_i x p es ks pos
      rw [Bool.and_eq_true] at h
      obtain ⟨h1, h2⟩ := h
      cases ks with
      | cons _ _ => cases h1
      | nil =>
        split at h2
        · rename_i y ps kws hs
          simp only [Bool.and_eq_true, decide_eq_true_eq] at h2
          obtain ⟨⟨⟨⟨rfl, h3⟩, h4⟩, h5⟩, h6⟩ := h2
          exact plain3 (fn_ok g hs h3 h4 h5 (sOs as g hf h6)) rfl rfl
        · cases h2
    · cases h
  | .fnK f perm as, X, sc, fx, e, g, hf, h => by
    unfold chkE at h
    split at h
    · rename_i x p ks pos
      rw [Bool.and_eq_true] at h
      obtain ⟨h1, h2⟩ := h
      split at h2
      · rename_i y ps kws hs
        simp only [Bool.and_eq_true, decide_eq_true_eq] at h2
        obtain ⟨⟨⟨⟨⟨⟨⟨rfl, h3⟩, h4⟩, h5⟩, h6⟩, h7⟩, h8⟩, h9⟩ := h2
        exact plain3 (fnK_ok g hs h3 h4 h7 h8 (sK as g hf h1 h6 h9)) rfl rfl
      · cases h2
    · cases h
  | .tup as, X, sc, fx, e, g, hf, h => by
    unfold chkE at h
    split at h
    · exact plain3 (PE.to (pe_tup (sVs as g hf h)) fun σ H Q q => tup_run q) rfl rfl
    · cases h
  | .lst as, X, sc, fx, e, g, hf, h => by
    unfold chkE at h
    split at h
    · exact plain3 (PE.to (pe_lst (sVs as g hf h)) fun σ H Q q => lst_run q) rfl rfl
    · cases h
  | .dic, X, sc, fx, e, g, hf, h => by
    unfold chkE at h
    split at h
    · exact plain3 dic_ok rfl rfl
    · cases h
  | .comp elt t it ifs own, X, sc, fx, e, g, hf, h => by
    unfold chkE at h
    split at h
    · rename_i ee tg iter cs a scope pos
      simp only [Bool.and_eq_true, decide_eq_true_eq] at h
      obtain ⟨⟨⟨⟨⟨⟨⟨⟨rfl, h1⟩, h2⟩, h3⟩, h4⟩, h5⟩, h6⟩, h7⟩, h8⟩ := h
      have hown : (ownPairs N own).map (·.2) = own := by
        unfold ownPairs
        rw [List.map_map]
        exact List.map_id own
      have tin : ∀ i ∈ tSlots t, i ∈ own := fun i hi => by
        have := List.all_eq_true.mp h3 i hi
        simpa using this
      have nf : ∀ p ∈ fx, p.1 ∉ own := fun p hp hm => by
        have := List.all_eq_true.mp h4 p.1 hm
        simp at this
        exact this (hf p hp)
      have hi := sI it g hf h1
      have hb : BlkOk X.N X.env.scope scope (ownPairs N own) := by
        rw [g.hN, g.hsc]
        exact blkOk_by h2
      have hG : ∀ (s : Shared) (H : Hp) (c : Addr) (cl : List (Str × Addr)) (fp : List Addr), PG (X.blk s H scope (compEnvC scope cl c X.env) fp) tg (tG X.K Φ fx t) := fun s H c cl fp =>
        pg_ok (X := X.blk s H scope (compEnvC scope cl c X.env) fp) (N := N) (sc := relS scope sc) (ok := okBlk scope) g.hN (g.blk s H scope cl c fp).hsc g.nd g.calm (blk_hok g s H scope cl c fp) t tg h6 fun p hp hm => nf p hp (tin _ hm)
      have hT : ∀ (s : Shared) (H : Hp) (c : Addr) (cl : List (Str × Addr)) (fp : List Addr), PTs (X.blk s H scope (compEnvC scope cl c X.env) fp) cs (tConds X.K C Φ fx ifs) := fun s H c cl fp =>
        sC ifs (g.blk s H scope cl c fp) hf h5 h7
      have hE : ∀ (s : Shared) (H : Hp) (c : Addr) (cl : List (Str × Addr)) (fp : List Addr), PE (X.blk s H scope (compEnvC scope cl c X.env) fp) ee (tD X.K C Φ fx elt) := fun s H c cl fp =>
        (sE elt (g.blk s H scope cl c fp) hf h8).1
      have pl := pe_lc (pos := pos) g.calm g.nd hi.1 hb hG hT hE (fun x => hi.2 X.env x)
      rw [hown] at pl
      refine plain3 (PE.to pl fun σ H Q q => comp_run tin nf ?_ q) rfl rfl
      cases ifs with
      | nil => exact .inl rfl
      | star _ _ => simp [singleC] at h5
      | cons m r =>
        cases r with
        | nil => exact .inr ⟨m, rfl⟩
        | cons _ _ => simp [singleC] at h5
        | star _ _ => simp [singleC] at h5
    · cases h
theorem sVs : ∀ (ms : MEs) {X : Cx} {sc : Scope} {fx : List (Nat × V)} {es : List Expr}, XG S N C k sc X → (∀ p ∈ fx, p.1 ∈ F) → chkVs S N F sc ms es = true → PA X es (tVs X.K C Φ fx ms)
  | .nil, X, sc, fx, es, g, hf, h => by
    cases es with
    | nil => exact pa_nil
    | cons _ _ => simp [chkVs] at h
  | .star m r, X, sc, fx, es, g, hf, h => by
    unfold chkVs at h
    split at h
    · rename_i e p es
      rw [Bool.and_eq_true] at h
      exact pa_star (sE m g hf h.1).1 (sVs r g hf h.2)
    · cases h
  | .cons m r, X, sc, fx, es, g, hf, h => by
    cases es with
    | nil => simp [chkVs] at h
    | cons e es =>
      simp only [chkVs, Bool.and_eq_true] at h
      exact pa_cons (sE m g hf h.1.2).1 (sVs r g hf h.2) (star_cons h.1.1)
theorem sK : ∀ (ms : MEs) {X : Cx} {sc : Scope} {fx : List (Nat × V)} {ks : List Keyword}, XG S N C k sc X → (∀ p ∈ fx, p.1 ∈ F) → noStars ms = true → kwAll ks = true → chkVs S N F sc ms (kwVals ks) = true → AllK X C Φ fx ms ks
  | .nil, X, sc, fx, ks, g, hf, n, ka, h => by
    cases ks with
    | nil => exact .nil
    | cons q _ => obtain ⟨a, b, c⟩ := q; simp [chkVs, kwVals] at h
  | .star m r, X, sc, fx, ks, g, hf, n, ka, h => by simp [noStars] at n
  | .cons m r, X, sc, fx, ks, g, hf, n, ka, h => by
    cases ks with
    | nil => simp [chkVs, kwVals] at h
    | cons q ks =>
      obtain ⟨a, b, c⟩ := q
      rw [kwVals_cons] at h
      simp only [chkVs, Bool.and_eq_true] at h
      simp only [kwAll, Bool.and_eq_true] at ka
      exact .cons ka.1 (sE m g hf h.1.2).1 (sK r g hf (by simpa [noStars] using n) ka.2 h.2)
theorem sC : ∀ (ms : MEs) {X : Cx} {sc : Scope} {fx : List (Nat × V)} {es : List Expr}, XG S N C k sc X → (∀ p ∈ fx, p.1 ∈ F) → singleC ms = true → chkC S N F sc ms es = true → PTs X es (tConds X.K C Φ fx ms)
  | .nil, X, sc, fx, es, g, hf, s, h => by
    cases es with
    | nil => exact pts_nil
    | cons _ _ => simp [chkC] at h
  | .star m r, X, sc, fx, es, g, hf, s, h => by simp [singleC] at s
  | .cons m r, X, sc, fx, es, g, hf, s, h => by
    cases es with
    | nil => simp [chkC] at h
    | cons e es =>
      simp only [chkC, Bool.and_eq_true] at h
      cases r with
      | nil =>
        cases es with
        | nil => exact pts_one ((sE m g hf h.1).2.1 (by simpa [singleC] using s))
        | cons _ _ => simp [chkC] at h
      | cons _ _ => simp [singleC] at s
      | star _ _ => simp [singleC] at s
theorem sI : ∀ (it : MI) {X : Cx} {sc : Scope} {fx : List (Nat × V)} {tg e : Expr}, XG S N C k sc X → (∀ p ∈ fx, p.1 ∈ F) → chkI S N F sc it tg e = true → PI X tg e (tI X.K C Φ fx it) ∧ ∀ env x, foldedSetIterable e env x = pure x
  | .val m, X, sc, fx, tg, e, g, hf, h => by
    unfold chkI at h
    rw [Bool.and_eq_true] at h
    exact ⟨PI.to (pi_seq (sE m g hf h.2).1) fun σ H R q => val_run q, fun env => folded_of h.1⟩
  | .rng1 m, X, sc, fx, tg, e, g, hf, h => by
    unfold chkI at h
    split at h
    · rename_i r p a ks pos
      simp only [Bool.and_eq_true, decide_eq_true_eq] at h
      obtain ⟨⟨⟨⟨h1, rfl⟩, h2⟩, h3⟩, h4⟩ := h
      cases ks with
      | cons _ _ => cases h1
      | nil => exact ⟨PI.to (pi_range1 (g.gname h2) (g.bl _ (by decide +kernel)) (pa_cons (sE m g hf h4).1 pa_nil (star_cons h3)) (star_cons h3)) fun σ H R q => rng1_run q, fun _ _ => rfl⟩
    · cases h
  | .rng2 m n, X, sc, fx, tg, e, g, hf, h => by
    unfold chkI at h
    split at h
    · rename_i r p a b ks pos
      simp only [Bool.and_eq_true, decide_eq_true_eq] at h
      obtain ⟨⟨⟨⟨⟨⟨h1, rfl⟩, h2⟩, h3⟩, h4⟩, h5⟩, h6⟩ := h
      cases ks with
      | cons _ _ => cases h1
      | nil => exact ⟨PI.to (pi_range2 (g.gname h2) (g.bl _ (by decide +kernel)) (pa_cons (sE m g hf h5).1 (pa_cons (sE n g hf h6).1 pa_nil (star_cons h4)) (star_cons h3)) (by rw [star_cons h3, star_cons h4]; rfl) (star_cons h4)) fun σ H R q => rng2_run q, fun _ _ => rfl⟩
    · cases h
  | .zip m n, X, sc, fx, tg, e, g, hf, h => by
    unfold chkI at h
    split at h
    · rename_i r p a b ks pos es kk tp
      simp only [Bool.and_eq_true, decide_eq_true_eq] at h
      obtain ⟨⟨⟨⟨⟨⟨h1, rfl⟩, h2⟩, h3⟩, h4⟩, h5⟩, h6⟩ := h
      cases ks with
      | cons _ _ => cases h1
      | nil => exact ⟨PI.to (pi_zipA (g.gname h2) (g.bl _ (by decide +kernel)) (pa_cons (sE m g hf h5).1 (pa_cons (sE n g hf h6).1 pa_nil (star_cons h4)) (star_cons h3)) (star_cons h3) (plain_any (by rw [List.all_cons, h4]; rfl))) fun σ H R q => zip_run q, fun _ _ => rfl⟩
    · cases h
  | .enum m, X, sc, fx, tg, e, g, hf, h => by
    unfold chkI at h
    split at h
    · rename_i r p a ks pos es kk tp
      simp only [Bool.and_eq_true, decide_eq_true_eq] at h
      obtain ⟨⟨⟨⟨h1, rfl⟩, h2⟩, h3⟩, h4⟩ := h
      cases ks with
      | cons _ _ => cases h1
      | nil => exact ⟨PI.to (pi_enumA (g.gname h2) (g.bl _ (by decide +kernel)) (pa_cons (sE m g hf h4).1 pa_nil (star_cons h3)) (star_cons h3)) fun σ H R q => enum_run q, fun _ _ => rfl⟩
    · cases h
theorem sOs : ∀ (ms : MEs) {X : Cx} {sc : Scope} {fx : List (Nat × V)} {es : List Expr}, XG S N C k sc X → (∀ p ∈ fx, p.1 ∈ F) → chkOs S N F sc ms es = true → AllO X C Φ fx ms es
  | .nil, X, sc, fx, es, g, hf, h => by
    cases es with
    | nil => exact .nil
    | cons _ _ => simp [chkOs] at h
  | .star _ _, X, sc, fx, es, g, hf, h => by simp [chkOs] at h
  | .cons m r, X, sc, fx, es, g, hf, h => by
    cases es with
    | nil => simp [chkOs] at h
    | cons e es =>
      simp only [chkOs, Bool.and_eq_true] at h
      exact .cons h.1.1 (toO g h.1.2 (sE m g hf h.1.2).1) (sOs r g hf h.2)
end
end
end Eng
set_option Elab.async false
set_option linter.all false
set_option maxRecDepth 100000
set_option maxHeartbeats 4000000
/-! Eng17: statements beside the syntax, and that they keep to the evaluator. -/
namespace Eng
open PySem PySem.Spec PyProof.Rows L2 StX RZ

/-! ### looks -/
def okS (sc : Scope) (x : Str) : Bool := kindIs sc x .local || kindIs sc x .cell
def isStar : Expr → Bool
  | .Starred .. => true
  | _ => false
def swName (sc : Scope) (line : Nat) : Expr → Option Str
  | .Name id pos => if sc.names.lookup id == some .local && pos.line == line then some id else none
  | _ => none
/-- how the stores of a display go: none: as they stand; some: swapped -/
def swW (sc : Scope) (ts vs : List Expr) : Option (Option (List Str)) :=
  if !(ts.length == 2 || ts.length == 3) || vs.length != ts.length then some none
  else if vs.any isStar then some none
  else
    let names := ts.filterMap (swName sc ((ts.head?.map (·.pos.line)).getD 0))
    if names.length != ts.length || names.eraseDups.length != names.length then some none
    else if vs.all (foldedForSure 8) then some none
    else if vs.all (constantsAlone 8) then none
    else some (some names)
def isLC : Expr → Bool
  | .ListComp .. => true
  | .SetComp .. => true
  | .DictComp .. => true
  | _ => false
def isNm : Expr → Bool
  | .Name .. => true
  | _ => false
/-- a comprehension stored where it is made -/
def lcSame (sc : Scope) (x : Str) (p : Pos) : Expr → Bool
  | .ListComp _ _ scope pos => kindIs sc x .local && (p.line == pos.line) && !(scope.names.any fun (n, k) => n == x && (k == .local || k == .cell))
  | _ => false
def plainStores (sc : Scope) : Expr → Expr → Bool
  | .Tuple ts _ _, .Tuple vs _ _ => decide (swW sc ts vs = some none)
  | .List _ _, _ => false
  | _, _ => true
/-- names beside slots -/
def chkNs (N : List Str) (F : List Nat) (sc : Scope) : List Nat → List Expr → Bool
  | [], [] => true
  | i :: is, .Name x _ :: es => decide (N[i]? = some x) && okS sc x && !F.contains i && chkNs N F sc is es
  | _, _ => false
mutual
def chkS (S : Sg) (N : List Str) (F : List Nat) : Scope → MS → Stmt → Bool
  | sc, .asg i e, st => (match st with
    | .Assign [.Name x p] v _ => decide (N[i]? = some x) && okS sc x && !F.contains i && chkE S N F sc e v && (!isLC v || lcSame sc x p v)
    | _ => false)
  | sc, .par is as, st => (match st with
    | .Assign [.Tuple ts _ _] (.Tuple vs _ _) _ => (match ts, vs, is with
      | [.Name x px, .Name y py], [a, b], [i, j] => decide (N[i]? = some x) && decide (N[j]? = some y) && decide (i ≠ j) && kindIs sc x .local && kindIs sc y .local && !F.contains i && !F.contains j &&
          decide (swW sc [.Name x px, .Name y py] [a, b] = some (some [x, y])) && chkVs S N F sc as [a, b] && noStars as
      | [.Name x px, .Name y py, .Name z pz], [a, b, c], [i, j, l] => decide (N[i]? = some x) && decide (N[j]? = some y) && decide (N[l]? = some z) && decide (i ≠ j) && decide (i ≠ l) && decide (j ≠ l) &&
          kindIs sc x .local && kindIs sc y .local && kindIs sc z .local && !F.contains i && !F.contains j && !F.contains l &&
          decide (swW sc [.Name x px, .Name y py, .Name z pz] [a, b, c] = some (some [x, y, z])) && chkVs S N F sc as [a, b, c] && noStars as
      | _, _, _ => false)
    | _ => false)
  | sc, .parT is as, st => (match st with
    | .Assign [.Tuple ts _ _] (.Tuple vs _ _) _ => chkNs N F sc is ts && decide (swW sc ts vs = some none) && chkVs S N F sc as vs
    | _ => false)
  | sc, .unp t e, st => (match st with
    | .Assign [tg] v _ => !isNm tg && !isStar tg && chkT N sc (okS sc) t tg && (tSlots t).all (fun i => !F.contains i) && plainStores sc tg v && chkE S N F sc e v
    | _ => false)
  | sc, .setI i ix e, st => (match st with
    | .Assign [.Subscript (.Name x _) ie _] v _ => decide (N[i]? = some x) && visB sc x && okName x && notSlice ie && chkE S N F sc ix ie && chkE S N F sc e v
    | _ => false)
  | sc, .app i e, st => (match st with
    | .Expr (.Call (.Attribute (.Name x _) m ap) [v] ks cp) _ => decide (m = ("append" : Str)) && ks.isEmpty && decide (N[i]? = some x) && visB sc x && okName x && (ap.endLine == cp.line) && notStar v && chkE S N F sc e v
    | _ => false)
  | sc, .ex e, st => (match st with
    | .Expr v _ => !isLC v && chkE S N F sc e v
    | _ => false)
  | sc, .ifS c a b, st => (match st with
    | .If ce as bs _ => tst c && chkE S N F sc c ce && chkSs S N F sc a as && chkSs S N F sc b bs
    | _ => false)
  | sc, .forS t it b, st => (match st with
    | .For tg iter bs [] _ => chkT N sc (okS sc) t tg && (tSlots t).all (fun i => !F.contains i) && chkI S N F sc it tg iter && chkSs S N F sc b bs
    | _ => false)
  | sc, .whl c b, st => (match st with
    | .While ce bs [] _ => tst c && chkE S N F sc c ce && chkSs S N F sc b bs
    | _ => false)
  | sc, .ret e, st => (match st with
    | .Return (some v) _ => chkE S N F sc e v
    | _ => false)
  | sc, .retV i, st => (match st with
    | .Return (some (.Name x _)) _ => decide (N[i]? = some x) && visB sc x && okName x
    | .Return none _ => false
    | _ => false)
  | _, .brk, st => (match st with
    | .Break _ => true
    | _ => false)
  | _, .cont, st => (match st with
    | .Continue _ => true
    | _ => false)
  | _, .pass, st => (match st with
    | .Pass _ => true
    | .Expr (.Constant (.str _) _ _) _ => true
    | _ => false)
  | _, .never, _ => true
def chkSs (S : Sg) (N : List Str) (F : List Nat) : Scope → MSs → List Stmt → Bool
  | _, .nil, sts => sts.isEmpty
  | sc, .cons m r, sts => (match sts with
    | st :: sts => chkS S N F sc m st && chkSs S N F sc r sts
    | [] => false)
end

/-! ### the stores of a display -/
theorem sw_of {sc : Scope} {env : PySem.Env} (he : env.scope = sc) (hk : sc.kind = .function) {ts vs : List Expr} {k k2 : Nat} {p p2 : Pos} {r : Option (List Str)} (h : swW sc ts vs = some r) : swappedStores [.Tuple ts k p] (.Tuple vs k2 p2) env = pure r := by
  subst he
  have hb : env.blockKind = .function := by unfold Env.blockKind; rw [hk]; rfl
  have key : ∀ names : List Str, names = ts.filterMap (swName env.scope ((ts.head?.map (·.pos.line)).getD 0)) → swappedStores [.Tuple ts k p] (.Tuple vs k2 p2) env =
      (if (!(ts.length == 2 || ts.length == 3) || vs.length != ts.length || ScopeKind.function != ScopeKind.function) = true then pure none
      else if vs.any isStar = true then pure none
      else if (names.length != ts.length || names.eraseDups.length != names.length) = true then pure none
      else if vs.all (foldedForSure 8) = true then pure none
      else if vs.all (constantsAlone 8) = true then (do
        let _ ← (unsupported "assign.tuple-of-constant-expressions:order-of-the-stores" : Sem PUnit)
        pure (some names)) else pure (some names)) := by
    intro names hn
    subst hn
    unfold swappedStores
    simp only [hb]
    rfl
  rw [key _ rfl]
  unfold swW at h
  by_cases c1 : (!(ts.length == 2 || ts.length == 3) || vs.length != ts.length) = true
  · rw [if_pos c1] at h
    cases h
    rw [if_pos (by rw [c1]; rfl)]
  · rw [if_neg c1] at h
    rw [if_neg (by rw [show (ScopeKind.function != ScopeKind.function) = false from rfl, Bool.or_false]; exact c1)]
    by_cases c2 : vs.any isStar = true
    · rw [if_pos c2] at h ⊢
      cases h; rfl
    · rw [if_neg c2] at h ⊢
      simp only at h
      split at h
      · rename_i c3
        rw [if_pos c3]
        cases h; rfl
      · rename_i c3
        rw [if_neg c3]
        split at h
        · rename_i c4
          rw [if_pos c4]
          cases h; rfl
        · rename_i c4
          rw [if_neg c4]
          split at h
          · cases h
          · rename_i c5
            rw [if_neg c5]
            cases h; rfl

/-! ### statements -/
def EndsOK (K : PySem.W.Frag) (Φ : Fm) (fx : List (Nat × V)) (tm : List Pr) (D : Ends) : Out → Prop
  | .nx ρ => ∀ σ H, RS K Φ fx ρ tm σ H → D.nx σ H
  | .rt v ρ => ∀ y σ H, RS K Φ fx ρ (tm ++ [(v, y)]) σ H → D.rt y H
  | .bk ρ => ∀ σ H, RS K Φ fx ρ tm σ H → D.bk σ H
  | .ct ρ => ∀ σ H, RS K Φ fx ρ tm σ H → D.ct σ H
def tM (K : PySem.W.Frag) (C : Ctx) (Φ : Fm) (fx : List (Nat × V)) (m : MS) : TS := fun D σ H => ∃ (ρ : Env) (tm : List Pr) (o : Out), exec C m ρ = some o ∧ RS K Φ fx ρ tm σ H ∧ EndsOK K Φ fx tm D o
def tMs (K : PySem.W.Frag) (C : Ctx) (Φ : Fm) (fx : List (Nat × V)) (ms : MSs) : TS := fun D σ H => ∃ (ρ : Env) (tm : List Pr) (o : Out), execs C ms ρ = some o ∧ RS K Φ fx ρ tm σ H ∧ EndsOK K Φ fx tm D o
structure XS (X : Cx) : Prop where
  pass : PassesOwn (model X.prog X.w) X.A X.env X.xe
  fn : ∀ x, X.fn x = true
section
variable {X : Cx} {C : Ctx} {Φ : Fm} {fx : List (Nat × V)} {S : Sg} {N : List Str} {k : Nat} {sc : Scope} {F : List Nat}
theorem okS_of (g : XG S N C k sc X) (xs : XS X) {x : Str} (h : okS sc x = true) : Loc X.env.scope x ∧ (X.fn x = true ∨ X.env.scope.names.lookup x = some .local) := by
  refine ⟨?_, .inl (xs.fn x)⟩
  rw [g.hsc]
  unfold okS kindIs at h
  simp only [Bool.or_eq_true, decide_eq_true_eq] at h
  exact h.elim .inl .inr
theorem RS.frz1 {K : PySem.W.Frag} {ρ : Env} {tm : List Pr} {σ : Sl} {H : Hp} {v : Val} {y : V} (r : RS K Φ fx ρ (tm ++ [(v, y)]) σ H) : RS K Φ fx ρ (tm ++ [(.d v.dat, y)]) σ H := by
  have := RS.frz (xs := [v]) (ys := [y]) (tm := tm) (by simpa using r) rfl
  simpa using this
theorem sw_non {v : Expr} {t : Option Expr} {l : Nat} {env : PySem.Env} (h : isLC v = false) : swapsWith v t l env = pure false := by
  cases v <;> first | rfl | cases h
theorem asg_run {K : PySem.W.Frag} {i : Nat} {e : ME} {D : Ends} {σ : Sl} {H : Hp} (nf : ∀ p ∈ fx, p.1 ≠ i) (h : tM K C Φ fx (.asg i e) D σ H) : tAsg (tD K C Φ fx e) (gName i) D σ H := by
  obtain ⟨ρ, tm, o, hd, r, k⟩ := h
  unfold exec at hd
  obtain ⟨⟨v, ρ1⟩, h1, hd1⟩ := Option.bind_eq_some_iff.mp hd
  obtain ⟨ρ2, h2, rfl⟩ := Option.map_eq_some_iff.mp hd1
  exact ⟨ρ, tm, v, ρ1, h1, r, fun y H' r' => k _ _ (r'.set h2 nf)⟩
theorem notF {F : List Nat} {i : Nat} (hf : ∀ p ∈ fx, p.1 ∈ F) (h : F.contains i = false) : ∀ p ∈ fx, p.1 ≠ i := fun p hp e => by
  have := hf p hp
  rw [e] at this
  simp at h
  exact h this
theorem RS.last2 {K : PySem.W.Frag} {ρ : Env} {tm : List Pr} {σ : Sl} {H : Hp} {a b : Pr} (r : RS K Φ fx ρ (tm ++ [a, b]) σ H) : RS K Φ fx ρ (tm ++ [b] ++ [a]) σ H := r.hand fun ps g => g.perm (by
  refine .append_left ps ?_
  rw [List.append_assoc]
  exact .append_left tm (List.Perm.swap _ _ _))
theorem par2_run {K : PySem.W.Frag} {i j : Nat} {as : MEs} {D : Ends} {σ : Sl} {H : Hp} (ni : ∀ p ∈ fx, p.1 ≠ i) (nj : ∀ p ∈ fx, p.1 ≠ j) (h : tM K C Φ fx (.par [i, j] as) D σ H) : tPar i j (tVs K C Φ fx as) D σ H := by
  obtain ⟨ρ, tm, o, hd, r, k⟩ := h
  unfold exec at hd
  obtain ⟨⟨xs, ρ1⟩, h1, hd1⟩ := Option.bind_eq_some_iff.mp hd
  obtain ⟨ρ2, h2, rfl⟩ := Option.map_eq_some_iff.mp hd1
  refine vs_run as h1 r fun ys H' l r' => ?_
  simp only at h2
  match xs, ys, l with
  | [], _, l => simp [setAll] at h2
  | [x], _, l => simp [setAll] at h2
  | x :: y :: z :: xs, _, l => simp [setAll] at h2
  | [x, y], [], l => simp at l
  | [x, y], [_], l => simp at l
  | [x, y], _ :: _ :: _ :: _, l => simp at l
  | [x, y], [u, v], l =>
    simp only [setAll] at h2
    obtain ⟨ρa, h3, h4⟩ := Option.bind_eq_some_iff.mp h2
    obtain ⟨ρb, h5, h6⟩ := Option.bind_eq_some_iff.mp h4
    cases h6
    have ra := (RS.last2 (by simpa using r')).set h3 ni
    exact ⟨u, v, rfl, k _ _ (ra.set h5 nj)⟩
theorem par3_run {K : PySem.W.Frag} {i j q : Nat} {as : MEs} {D : Ends} {σ : Sl} {H : Hp} (ni : ∀ p ∈ fx, p.1 ≠ i) (nj : ∀ p ∈ fx, p.1 ≠ j) (nq : ∀ p ∈ fx, p.1 ≠ q) (h : tM K C Φ fx (.par [i, j, q] as) D σ H) : tPar3 i j q (tVs K C Φ fx as) D σ H := by
  obtain ⟨ρ, tm, o, hd, r, k⟩ := h
  unfold exec at hd
  obtain ⟨⟨xs, ρ1⟩, h1, hd1⟩ := Option.bind_eq_some_iff.mp hd
  obtain ⟨ρ2, h2, rfl⟩ := Option.map_eq_some_iff.mp hd1
  refine vs_run as h1 r fun ys H' l r' => ?_
  simp only at h2
  match xs, ys, l with
  | [], _, l => simp [setAll] at h2
  | [x], _, l => simp [setAll] at h2
  | [x, y], _, l => simp [setAll] at h2
  | x :: y :: z :: z2 :: xs, _, l => simp [setAll] at h2
  | [x, y, z], [], l => simp at l
  | [x, y, z], [_], l => simp at l
  | [x, y, z], [_, _], l => simp at l
  | [x, y, z], _ :: _ :: _ :: _ :: _, l => simp at l
  | [x, y, z], [u, v, w], l =>
    simp only [setAll] at h2
    obtain ⟨ρa, h3, h4⟩ := Option.bind_eq_some_iff.mp h2
    obtain ⟨ρb, h5, h6⟩ := Option.bind_eq_some_iff.mp h4
    obtain ⟨ρc, h7, h8⟩ := Option.bind_eq_some_iff.mp h6
    cases h8
    have r0 : RS K Φ fx ρ1 (tm ++ [(z, w)] ++ [(y, v)] ++ [(x, u)]) σ H' := RS.hand (tm := tm ++ [(x, u), (y, v), (z, w)]) (by simpa using r') fun ps g => g.perm (by
      refine .append_left ps ?_
      simp only [List.append_assoc]
      exact .append_left tm (List.reverse_perm [(x, u), (y, v), (z, w)]))
    exact ⟨u, v, w, rfl, k _ _ (((r0.set h3 ni).set h5 nj).set h7 nq)⟩
def gNs : List Nat → TGs
  | [] => gNil
  | i :: is => gCons (gName i) (gNs is)
theorem chkNs_len : ∀ {is : List Nat} {es : List Expr}, chkNs N F sc is es = true → is.length = es.length
  | [], [], _ => rfl
  | i :: is, e :: es, h => by
    cases e with
    | Name x pos =>
      simp only [chkNs, Bool.and_eq_true] at h
      simp [chkNs_len h.2]
    | _ => simp [chkNs] at h
  | [], _ :: _, h => by simp [chkNs] at h
  | _ :: _, [], h => by simp [chkNs] at h
theorem chkNs_star : ∀ {is : List Nat} {es : List Expr}, chkNs N F sc is es = true → ∀ e ∈ es, notStar e = true
  | [], [], _ => fun e he => by cases he
  | i :: is, e :: es, h => by
    cases e with
    | Name x pos =>
      simp only [chkNs, Bool.and_eq_true] at h
      intro e' he
      rcases List.mem_cons.mp he with rfl | he
      · rfl
      · exact chkNs_star h.2 e' he
    | _ => simp [chkNs] at h
  | [], _ :: _, h => by simp [chkNs] at h
  | _ :: _, [], h => by simp [chkNs] at h
theorem chkNs_F (hf : ∀ p ∈ fx, p.1 ∈ F) : ∀ {is : List Nat} {es : List Expr}, chkNs N F sc is es = true → ∀ i ∈ is, ∀ p ∈ fx, p.1 ≠ i
  | [], [], _ => fun i hi => by cases hi
  | i :: is, e :: es, h => by
    cases e with
    | Name x pos =>
      simp only [chkNs, Bool.and_eq_true, Bool.not_eq_true'] at h
      intro j hj
      rcases List.mem_cons.mp hj with rfl | hj
      · exact notF hf h.1.2
      · exact chkNs_F hf h.2 j hj
    | _ => simp [chkNs] at h
  | [], _ :: _, h => by simp [chkNs] at h
  | _ :: _, [], h => by simp [chkNs] at h
theorem pgNs_ok (g : XG S N C k sc X) (xs : XS X) : ∀ {is : List Nat} {es : List Expr}, chkNs N F sc is es = true → PGs X es (gNs is)
  | [], [], _ => pgs_nil
  | i :: is, e :: es, h => by
    have hst := chkNs_star h e List.mem_cons_self
    cases e with
    | Name x pos =>
      simp only [chkNs, Bool.and_eq_true, decide_eq_true_eq] at h
      obtain ⟨⟨⟨h1, h2⟩, _⟩, h4⟩ := h
      exact pgs_cons (pg_name g.nd (by rw [g.hN]; exact h1) (okS_of g xs h2).1 (okS_of g xs h2).2) (pgNs_ok g xs h4) (by rw [assignEach_cons hst]; rfl)
    | _ => simp [chkNs] at h
  | [], _ :: _, h => by simp [chkNs] at h
  | _ :: _, [], h => by simp [chkNs] at h
theorem gNs_run {K : PySem.W.Frag} {Q : L2.St → Hp → Prop} {ρ2 : Env} {tm : List Pr} : ∀ {is : List Nat} {xs : List Val} {ys : List V} {ρ : Env} {σ : Sl} {H : Hp}, setAll is xs ρ = some ρ2 → ys.length = xs.length → (∀ i ∈ is, ∀ p ∈ fx, p.1 ≠ i) → RS K Φ fx ρ (tm ++ xs.zip ys) σ H → (∀ σ' H', RS K Φ fx ρ2 tm σ' H' → Q σ' H') → gNs is ys σ H Q
  | [], [], ys, ρ, σ, H, h, hl, _, r, k => by
    have y0 : ys = [] := List.eq_nil_of_length_eq_zero hl
    subst y0
    cases h
    exact ⟨rfl, k _ _ (by simpa using r)⟩
  | i :: is, x :: xs, [], ρ, σ, H, h, hl, _, r, k => by simp at hl
  | i :: is, x :: xs, y :: ys, ρ, σ, H, h, hl, nf, r, k => by
    unfold setAll at h
    obtain ⟨ρ1, h1, h2⟩ := Option.bind_eq_some_iff.mp h
    have r0 : RS K Φ fx ρ (tm ++ xs.zip ys ++ [(x, y)]) σ H := RS.hand (tm := tm ++ (x :: xs).zip (y :: ys)) r fun ps g => g.perm (by
      refine .append_left ps ?_
      rw [List.zip_cons_cons, List.append_assoc]
      exact .append_left tm List.perm_append_comm)
    exact ⟨y, ys, rfl, gNs_run h2 (by simpa using hl) (fun j hj => nf j (List.mem_cons_of_mem _ hj)) (r0.set h1 (nf i List.mem_cons_self)) k⟩
  | [], _ :: _, _, _, _, _, h, _, _, _, _ => by simp [setAll] at h
  | _ :: _, [], _, _, _, _, h, _, _, _, _ => by simp [setAll] at h
theorem setAll_len : ∀ {is : List Nat} {xs : List Val} {ρ ρ2 : Env}, setAll is xs ρ = some ρ2 → is.length = xs.length
  | [], [], _, _, _ => rfl
  | i :: is, x :: xs, ρ, ρ2, h => by
    unfold setAll at h
    obtain ⟨ρ1, h1, h2⟩ := Option.bind_eq_some_iff.mp h
    simp [setAll_len h2]
  | [], _ :: _, _, _, h => by simp [setAll] at h
  | _ :: _, [], _, _, h => by simp [setAll] at h
theorem parT_run {K : PySem.W.Frag} {n : Nat} {is : List Nat} {as : MEs} {D : Ends} {σ : Sl} {H : Hp} (nf : ∀ i ∈ is, ∀ p ∈ fx, p.1 ≠ i) (hn : is.length = n) (h : tM K C Φ fx (.parT is as) D σ H) : tAsg (tTup (tVs K C Φ fx as)) (gTup K n (gNs is)) D σ H := by
  obtain ⟨ρ, tm, o, hd, r, k⟩ := h
  unfold exec at hd
  obtain ⟨⟨xs, ρ1⟩, h1, hd1⟩ := Option.bind_eq_some_iff.mp hd
  simp only at hd1
  split at hd1
  · rename_i hl
    obtain ⟨ρ2, h2, rfl⟩ := Option.map_eq_some_iff.mp hd1
    refine vs_run as h1 r fun ys H' l r' => ⟨by rw [l]; exact Nat.le_trans hl szLine, fun p hp => ⟨p, ys, rfl, .inl (.inl upd_same), by rw [l, ← setAll_len h2, hn], ?_⟩⟩
    exact gNs_run h2 l nf (r'.hand fun ps g => g.grow hp) (fun σ' H' q => k _ _ q)
  · cases hd1
theorem unp_run {K : PySem.W.Frag} {t : MT} {e : ME} {D : Ends} {σ : Sl} {H : Hp} (h : tM K C Φ fx (.unp t e) D σ H) : tAsg (tD K C Φ fx e) (tG K Φ fx t) D σ H := by
  obtain ⟨ρ, tm, o, hd, r, k⟩ := h
  unfold exec at hd
  obtain ⟨⟨v, ρ1⟩, h1, hd1⟩ := Option.bind_eq_some_iff.mp hd
  obtain ⟨ρ2, h2, rfl⟩ := Option.map_eq_some_iff.mp hd1
  exact ⟨ρ, tm, v, ρ1, h1, r, fun y H' r' => ⟨ρ1, tm, _, ρ2, h2, r'.frz1, fun σ2 H2 r2 _ => k _ _ r2⟩⟩
theorem setI_run {K : PySem.W.Frag} {i : Nat} {ix e : ME} {D : Ends} {σ : Sl} {H : Hp} (h : tM K C Φ fx (.setI i ix e) D σ H) : tAsg (tD K C Φ fx e) (gSub (tVar i) (tD K C Φ fx ix) rSetL) D σ H := by
  obtain ⟨ρ, tm, o, hd, r, k⟩ := h
  unfold exec at hd
  obtain ⟨⟨v, ρ1⟩, h1, hd1⟩ := Option.bind_eq_some_iff.mp hd
  obtain ⟨q, h2, hd2⟩ := Option.bind_eq_some_iff.mp hd1
  obtain ⟨⟨w, ρ2⟩, h3, hd3⟩ := Option.bind_eq_some_iff.mp hd2
  clear hd hd1 hd2
  simp only at h2 h3 hd3
  refine ⟨ρ, tm, v, ρ1, h1, r, fun y H' r' => ?_⟩
  obtain ⟨z, hz⟩ := r'.slot h2
  refine ⟨z, hz, ρ1, tm ++ [(v, y)], w, ρ2, h3, r', fun u H2 r2 => ?_⟩
  split at hd3
  · rename_i xs kk es ek
    obtain ⟨j, h4, hd4⟩ := Option.bind_eq_some_iff.mp hd3
    obtain ⟨ρ3, h5, rfl⟩ := Option.map_eq_some_iff.mp hd4
    obtain ⟨ps, p, g, f⟩ := id r2
    have e2 := g.int (x := w) (v := u) (by simp) ek
    subst e2
    have r3 : RS K Φ fx ρ2 (tm ++ [(.d v.dat, y)]) σ H2 := r2.left.frz1
    obtain ⟨a, vs, e3, ha, hl, ch⟩ := r3.chg es h5
    rw [hz] at e3
    cases e3
    refine ⟨a, vs, kk, j, rfl, rfl, ha, by rw [hl]; exact h4, k _ _ (ch _ fun F hF ha => ha.set (hF List.mem_cons_self) j)⟩
  · cases hd3
theorem app_run {K : PySem.W.Frag} {i : Nat} {e : ME} {D : Ends} {σ : Sl} {H : Hp} (h : tM K C Φ fx (.app i e) D σ H) : tDrop (tBM K "list" rAppend (tVar i) (tCons (tD K C Φ fx e) tNil)) D σ H := by
  obtain ⟨ρ, tm, o, hd, r, k⟩ := h
  unfold exec at hd
  obtain ⟨q, h0, hd0⟩ := Option.bind_eq_some_iff.mp hd
  clear hd
  split at hd0
  · rename_i hq
    obtain ⟨⟨v, ρ1⟩, h1, hd1⟩ := Option.bind_eq_some_iff.mp hd0
    clear hd0
    simp only at hd1
    cases q with
    | d t => cases hq
    | own xs0 =>
      have r00 := r
      obtain ⟨ps, p, g, f⟩ := r00
      obtain ⟨z, hz, mz⟩ := p.get (slotV_some h0)
      obtain ⟨a, vs0, rfl, q0, _⟩ := g.seqL (List.mem_append_left _ mz) rfl
      refine ⟨.ref a, hz, .inl ⟨rfl, vs0, q0.sq⟩, ρ, tm, v, ρ1, h1, r, fun y H' r' => ?_⟩
      split at hd1
      · rename_i xs es
        split at hd1
        · rename_i hlt
          obtain ⟨ρ3, h5, rfl⟩ := Option.map_eq_some_iff.mp hd1
          obtain ⟨a2, vs, e3, ha, hl, ch⟩ := (RS.frz1 r').chg es h5
          rw [hz] at e3
          cases e3
          exact ⟨a, vs, y, rfl, rfl, ha, by rw [hl]; exact Nat.lt_of_lt_of_le hlt szLine, k _ _ (ch _ fun F hF ha => ha.append (.cons (hF List.mem_cons_self) .nil))⟩
        · cases hd1
      · cases hd1
  · cases hd0
end
end Eng
set_option Elab.async false
set_option linter.all false
set_option maxRecDepth 100000
set_option maxHeartbeats 4000000
/-! Eng18: blocks, loops, all statements. -/
namespace Eng
open PySem PySem.Spec PyProof.Rows L2 StX RZ
section
variable {X : Cx} {C : Ctx} {Φ : Fm} {fx : List (Nat × V)} {S : Sg} {N : List Str} {k : Nat} {sc : Scope} {F : List Nat}
theorem ret_run {K : PySem.W.Frag} {e : ME} {D : Ends} {σ : Sl} {H : Hp} (h : tM K C Φ fx (.ret e) D σ H) : tRet (tD K C Φ fx e) D σ H := by
  obtain ⟨ρ, tm, o, hd, r, k⟩ := h
  unfold exec at hd
  obtain ⟨⟨v, ρ1⟩, h1, rfl⟩ := Option.map_eq_some_iff.mp hd
  exact ⟨ρ, tm, v, ρ1, h1, r, fun y H' r' => k _ _ _ r'⟩
theorem retV_run {K : PySem.W.Frag} {i : Nat} {D : Ends} {σ : Sl} {H : Hp} (h : tM K C Φ fx (.retV i) D σ H) : tRet (tVar i) D σ H := by
  obtain ⟨ρ, tm, o, hd, r, k⟩ := h
  unfold exec at hd
  obtain ⟨v, h1, rfl⟩ := Option.map_eq_some_iff.mp hd
  obtain ⟨ps, p, g, f⟩ := r
  obtain ⟨y, ps0, h2, p0, pp⟩ := p.take (slotV_some h1)
  refine ⟨y, h2, k y σ H ⟨ps0, p0, g.perm ?_, f⟩⟩
  have e1 : (ps0 ++ (tm ++ [(v, y)])).Perm ((v, y) :: (ps0 ++ tm)) := by
    rw [← List.append_assoc]
    exact List.perm_append_comm
  exact e1.trans (List.Perm.append_right tm pp.symm)
theorem ex_run {K : PySem.W.Frag} {e : ME} {D : Ends} {σ : Sl} {H : Hp} (h : tM K C Φ fx (.ex e) D σ H) : tDrop (tD K C Φ fx e) D σ H := by
  obtain ⟨ρ, tm, o, hd, r, k⟩ := h
  unfold exec at hd
  obtain ⟨⟨v, ρ1⟩, h1, rfl⟩ := Option.map_eq_some_iff.mp hd
  exact ⟨ρ, tm, v, ρ1, h1, r, fun y H' r' => k _ _ r'.left⟩
theorem if_run {K : PySem.W.Frag} {c : ME} {a b : MSs} {D : Ends} {σ : Sl} {H : Hp} (h : tM K C Φ fx (.ifS c a b) D σ H) : tIfS (tT K C Φ fx c) (tMs K C Φ fx a) (tMs K C Φ fx b) D σ H := by
  obtain ⟨ρ, tm, o, hd, r, k⟩ := h
  unfold exec at hd
  obtain ⟨⟨v, ρ1⟩, h1, hd1⟩ := Option.bind_eq_some_iff.mp hd
  obtain ⟨d, h2, hd2⟩ := Option.bind_eq_some_iff.mp hd1
  cases asB_some h2
  refine ⟨ρ, tm, _, _, h1, r, fun H' r' => ?_⟩
  cases d with
  | true => exact ⟨_, tm, o, hd2, r', k⟩
  | false => exact ⟨_, tm, o, hd2, r', k⟩
theorem seq_run {K : PySem.W.Frag} {s : MS} {ms : MSs} {D : Ends} {σ : Sl} {H : Hp} (h : tMs K C Φ fx (.cons s ms) D σ H) : tSeq (tM K C Φ fx s) (tMs K C Φ fx ms) D σ H := by
  obtain ⟨ρ, tm, o, hd, r, k⟩ := h
  unfold execs at hd
  obtain ⟨o1, h1, hd1⟩ := Option.bind_eq_some_iff.mp hd
  refine ⟨ρ, tm, o1, h1, r, ?_⟩
  cases o1 with
  | nx ρ1 => exact fun σ' H' r' => ⟨ρ1, tm, o, hd1, r', k⟩
  | rt v ρ1 => cases hd1; exact k
  | bk ρ1 => cases hd1; exact k
  | ct ρ1 => cases hd1; exact k
theorem while_run {K : PySem.W.Frag} {c : ME} {b : MSs} {D : Ends} {σ : Sl} {H : Hp} (h : tM K C Φ fx (.whl c b) D σ H) : tWhile (tT K C Φ fx c) (tMs K C Φ fx b) D σ H := by
  obtain ⟨ρ, tm, o, hd, r, k⟩ := h
  unfold exec at hd
  refine ⟨fun m σ H => ∃ ρk, RS K Φ fx ρk tm σ H ∧ whlLoop (den C c) (execs C b) m ρk = some o, ⟨fuelW, ρ, r, hd⟩, ?_⟩
  rintro m σ1 H1 ⟨ρk, rk, hl⟩
  cases m with
  | zero => cases hl
  | succ m =>
    unfold whlLoop at hl
    obtain ⟨⟨v, ρ1⟩, h1, hd1⟩ := Option.bind_eq_some_iff.mp hl
    obtain ⟨d, h2, hd2⟩ := Option.bind_eq_some_iff.mp hd1
    clear hl hd1
    cases asB_some h2
    refine ⟨ρk, tm, _, _, h1, rk, fun H' r' => ?_⟩
    cases d with
    | false =>
      rw [if_neg Bool.false_ne_true] at hd2 ⊢
      cases hd2
      exact k _ _ r'
    | true =>
      rw [if_pos rfl] at hd2 ⊢
      obtain ⟨o1, h3, hd3⟩ := Option.bind_eq_some_iff.mp hd2
      refine ⟨fun σ' H' => ∃ ρk, RS K Φ fx ρk tm σ' H' ∧ whlLoop (den C c) (execs C b) m ρk = some o, fun σ' H' q => ⟨m, Nat.lt_succ_self m, q⟩, ρ1, tm, o1, h3, r', ?_⟩
      cases o1 with
      | nx ρ2 => exact fun σ2 H2 r2 => ⟨ρ2, r2, hd3⟩
      | ct ρ2 => exact fun σ2 H2 r2 => ⟨ρ2, r2, hd3⟩
      | bk ρ2 => cases hd3; exact k
      | rt v ρ2 => cases hd3; exact k
theorem for_run {K : PySem.W.Frag} {t : MT} {it : MI} {b : MSs} {D : Ends} {σ : Sl} {H : Hp} (h : tM K C Φ fx (.forS t it b) D σ H) : tFor (tI K C Φ fx it) (tG K Φ fx t) (tMs K C Φ fx b) D σ H := by
  obtain ⟨ρ, tm, o, hd, r, k⟩ := h
  unfold exec at hd
  obtain ⟨⟨ds, ρ1⟩, h1, hd1⟩ := Option.bind_eq_some_iff.mp hd
  clear hd
  simp only at hd1
  refine ⟨ρ, tm, ds, ρ1, h1, r, fun J src H1 rs ok => ⟨fun i m σ H => m + i = ds.length ∧ ∃ ρk, RS K Φ fx ρk (tm ++ src) σ H ∧ forLoop (bindT t) (execs C b) (ds.drop i) ρk = some o, ⟨ds.length, by omega, ρ1, rs, by simpa using hd1⟩, ?_⟩⟩
  rintro i m σ1 H2 ⟨hm, ρk, rk, hl⟩
  have itk : ∀ j : Nat, (j < ds.length → J.go j H2) ∧ (j = ds.length → J.stop j H2) := fun j => let ⟨ps, p, g, f⟩ := rk
    let z := ok H2 _ g (fun q hq => by simp [hq]) j
    ⟨z.1, z.2.1⟩
  by_cases hlt : i < ds.length
  · have e0 : ds[i]? = some ds[i] := by simp [hlt]
    have ed : ds.drop i = ds[i] :: ds.drop (i + 1) := List.drop_eq_getElem_cons hlt
    rw [ed] at hl
    unfold forLoop at hl
    obtain ⟨ρa, c1, hl1⟩ := Option.bind_eq_some_iff.mp hl
    obtain ⟨o1, c2, hl2⟩ := Option.bind_eq_some_iff.mp hl1
    clear hl hl1
    refine .inr ⟨(itk i).1 hlt, fun σ' H' => ((m - 1) + (i + 1) = ds.length ∧ ∃ ρk, RS K Φ fx ρk (tm ++ src) σ' H' ∧ forLoop (bindT t) (execs C b) (ds.drop (i + 1)) ρk = some o), fun σ' H' q => ⟨m - 1, by omega, q⟩, fun x H' hy => ?_⟩
    have rx : RS K Φ fx ρk (tm ++ src ++ [(.d ds[i], x)]) σ1 H' := rk.hand fun ps g => by
      rw [← List.append_assoc]
      exact (ok H2 _ g (fun q hq => by simp [hq]) i).2.2 _ _ _ e0 hy
    refine ⟨ρk, tm ++ src, ds[i], ρa, c1, rx, fun σ2 H3 r2 _ => ⟨ρa, tm ++ src, o1, c2, r2, ?_⟩⟩
    cases o1 with
    | nx ρ2 => exact fun σ3 H4 r3 => ⟨by omega, ρ2, r3, hl2⟩
    | ct ρ2 => exact fun σ3 H4 r3 => ⟨by omega, ρ2, r3, hl2⟩
    | bk ρ2 => cases hl2; exact fun σ3 H4 r3 => k _ _ r3.left
    | rt v ρ2 => cases hl2; exact fun y σ3 H4 r3 => k y σ3 _ r3.drop
  · have ei : i = ds.length := by omega
    rw [ei, List.drop_length] at hl
    cases hl
    exact .inl ⟨(itk i).2 ei, k _ _ rk.left⟩
theorem fin_run {K : PySem.W.Frag} {m : MS} {D : Ends} {σ : Sl} {H : Hp} (h : tM K C Φ fx m D σ H) : (m = .brk → tBreak D σ H) ∧ (m = .cont → tCont D σ H) ∧ (m = .pass → tNext D σ H) ∧ (m = .never → False) := by
  obtain ⟨ρ, tm, o, hd, r, k⟩ := h
  refine ⟨fun e => ?_, fun e => ?_, fun e => ?_, fun e => ?_⟩ <;> subst e <;> unfold exec at hd <;> cases hd
  · exact k _ _ r
  · exact k _ _ r
  · exact k _ _ r

/-- a comprehension stored where it is made -/
theorem lcSet_ok (g : XG S N C k sc X) {i : Nat} {e : ME} {v : Expr} {x : Str} {p pos : Pos} (hk : sc.kind = .function) (hf : ∀ p ∈ fx, p.1 ∈ F) (hx : N[i]? = some x) (h : chkE S N F sc e v = true) (hl : lcSame sc x p v = true) :
    PS X (.Assign [.Name x p] v pos) (tAsg (tD X.K C Φ fx e) (gName i)) := by
  cases v with
  | ListComp ee gens scope lpos =>
    cases e with
    | comp elt t it ifs own =>
      unfold chkE at h
      split at h
      · rename_i ee tg iter cs a scope lpos heq
        cases heq
        simp only [Bool.and_eq_true, decide_eq_true_eq] at h
        obtain ⟨⟨⟨⟨⟨⟨⟨⟨rfl, h1⟩, h2⟩, h3⟩, h4⟩, h5⟩, h6⟩, h7⟩, h8⟩ := h
        have hown : (ownPairs N own).map (·.2) = own := by
          unfold ownPairs
          rw [List.map_map]
          exact List.map_id own
        have tin : ∀ i ∈ tSlots t, i ∈ own := fun i hi => by
          have := List.all_eq_true.mp h3 i hi
          simpa using this
        have nf : ∀ p ∈ fx, p.1 ∉ own := fun p hp hm => by
          have := List.all_eq_true.mp h4 p.1 hm
          simp at this
          exact this (hf p hp)
        have hi := sI (Φ := Φ) it g hf h1
        have hb : BlkOk X.N X.env.scope scope (ownPairs N own) := by
          rw [g.hN, g.hsc]
          exact blkOk_by h2
        have hG : ∀ (s : Shared) (H : Hp) (c : Addr) (cl : List (Str × Addr)) (fp : List Addr), PG (X.blk s H scope (compEnvC scope cl c X.env) fp) tg (tG X.K Φ fx t) := fun s H c cl fp =>
          pg_ok (X := X.blk s H scope (compEnvC scope cl c X.env) fp) (N := N) (sc := relS scope sc) (ok := okBlk scope) g.hN (g.blk s H scope cl c fp).hsc g.nd g.calm (blk_hok g s H scope cl c fp) t tg h6 fun p hp hm => nf p hp (tin _ hm)
        have hT : ∀ (s : Shared) (H : Hp) (c : Addr) (cl : List (Str × Addr)) (fp : List Addr), PTs (X.blk s H scope (compEnvC scope cl c X.env) fp) cs (tConds X.K C Φ fx ifs) := fun s H c cl fp =>
          sC ifs (g.blk s H scope cl c fp) hf h5 h7
        have hE : ∀ (s : Shared) (H : Hp) (c : Addr) (cl : List (Str × Addr)) (fp : List Addr), PE (X.blk s H scope (compEnvC scope cl c X.env) fp) ee (tD X.K C Φ fx elt) := fun s H c cl fp =>
          (sE elt (g.blk s H scope cl c fp) hf h8).1
        simp only [lcSame, Bool.and_eq_true, Bool.not_eq_true'] at hl
        obtain ⟨⟨l1, l2⟩, l3⟩ := hl
        have hyl : X.env.scope.names.lookup x = some .local := by
          rw [g.hsc]
          exact of_decide_eq_true l1
        have pl := ps_setLc (spos := pos) (pos := lpos) (py := p) g.calm g.nd (by rw [g.hN]; exact hx) hyl (sw_true (by rw [g.hsc]; exact hk) hyl l2 l3) hi.1 hb hG hT hE (fun x => hi.2 X.env x)
        rw [hown] at pl
        refine PS.to pl fun D σ H q => comp_run tin nf ?_ q
        cases ifs with
        | nil => exact .inl rfl
        | star _ _ => simp [singleC] at h5
        | cons m r =>
          cases r with
          | nil => exact .inr ⟨m, rfl⟩
          | cons _ _ => simp [singleC] at h5
          | star _ _ => simp [singleC] at h5
      · cases h
    | _ => simp [chkE, shape] at h
  | _ => simp [lcSame] at hl
end
section
variable {C : Ctx} {Φ : Fm} {S : Sg} {N : List Str} {k : Nat} {F : List Nat}
theorem allF {l : List Nat} {fx : List (Nat × V)} (hf : ∀ p ∈ fx, p.1 ∈ F) (h : l.all (fun i => !F.contains i) = true) : ∀ p ∈ fx, p.1 ∉ l := fun p hp hm => by
  have := List.all_eq_true.mp h p.1 hm
  simp at this
  exact this (hf p hp)
theorem sw_tgt {v tg : Expr} {l : Nat} {env : PySem.Env} (h : isNm tg = false) : swapsWithSole [tg] v l env = pure false := by
  show swapsWith v (some tg) l env = pure false
  cases e : isLC v with
  | false => exact sw_non e
  | true =>
    cases v with
    | ListComp a b c d => cases tg <;> first | rfl | cases h
    | SetComp a b c d => cases tg <;> first | rfl | cases h
    | DictComp a b c d e => cases tg <;> first | rfl | cases h
    | _ => cases e
theorem assign_one {tg : Expr} {env : PySem.Env} (h : isStar tg = false) : (assignEach [tg] env).map (·.2) = [assign tg env] := by
  cases tg <;> first | rfl | cases h
theorem asg_sub {o ie : Expr} {p : Pos} {env : PySem.Env} {v : Value} (h : notSlice ie = true) : assign (.Subscript o ie p) env v = (do
      let ov ← holding [v] (eval o env)
      let iv ← holding [v, ov] (eval ie env)
      standAt p
      holding [v, ov, iv] (setItem ov iv v)
      release [v, ov, iv] []) := by
  cases ie <;> first | rfl | cases h
mutual
theorem sS : ∀ (m : MS) {X : Cx} {sc : Scope} {fx : List (Nat × V)} {st : Stmt}, XG S N C k sc X → XS X → sc.kind = .function → (∀ p ∈ fx, p.1 ∈ F) → chkS S N F sc m st = true → PS X st (tM X.K C Φ fx m)
  | .asg i e, X, sc, fx, st, g, xs, hk, hf, h => by
    unfold chkS at h
    split at h
    · rename_i x p v pos
      simp only [Bool.and_eq_true, decide_eq_true_eq, Bool.not_eq_true', Bool.or_eq_true] at h
      obtain ⟨⟨⟨⟨h1, h2⟩, h3⟩, h4⟩, h5⟩ := h
      have q : ∀ D σ H, tM X.K C Φ fx (.asg i e) D σ H → tAsg (tD X.K C Φ fx e) (gName i) D σ H := fun D σ H q => asg_run (notF hf h3) q
      rcases h5 with h5 | h5
      · exact PS.to (ps_set g.nd (by rw [g.hN]; exact h1) (okS_of g xs h2).1 (sE e g hf h4).1 (sw_non h5) (okS_of g xs h2).2) q
      · exact PS.to (lcSet_ok g hk hf h1 h4 h5) q
    · cases h
  | .par is as, X, sc, fx, st, g, xs, hk, hf, h => by
    unfold chkS at h
    split at h
    · rename_i ts kt pt vs k2 pt2 pos
      split at h
      · rename_i x px y py a b i j
        simp only [Bool.and_eq_true, decide_eq_true_eq, Bool.not_eq_true'] at h
        obtain ⟨⟨⟨⟨⟨⟨⟨⟨⟨h1, h2⟩, h3⟩, h4⟩, h5⟩, h6⟩, h7⟩, h8⟩, h9⟩, h10⟩ := h
        refine PS.to (ps_par (pos := pos) g.calm g.nd (by rw [g.hN]; exact h1) (by rw [g.hN]; exact h2) h3 (by rw [g.hsc]; exact of_decide_eq_true h4) (by rw [g.hsc]; exact of_decide_eq_true h5) (sVs as g hf h9) (sw_of g.hsc hk h8) rfl) fun D σ H q => par2_run (notF hf h6) (notF hf h7) q
      · rename_i x px y py z pz a b c i j l
        simp only [Bool.and_eq_true, decide_eq_true_eq, Bool.not_eq_true'] at h
        obtain ⟨⟨⟨⟨⟨⟨⟨⟨⟨⟨⟨⟨⟨⟨h1, h2⟩, h3⟩, d1⟩, d2⟩, d3⟩, k1⟩, k2⟩, k3⟩, f1⟩, f2⟩, f3⟩, h8⟩, h9⟩, h10⟩ := h
        refine PS.to (ps_par3 (pos := pos) g.calm g.nd (by rw [g.hN]; exact h1) (by rw [g.hN]; exact h2) (by rw [g.hN]; exact h3) d1 d2 d3 (by rw [g.hsc]; exact of_decide_eq_true k1) (by rw [g.hsc]; exact of_decide_eq_true k2) (by rw [g.hsc]; exact of_decide_eq_true k3) (sVs as g hf h9) (sw_of g.hsc hk h8) rfl) fun D σ H q => par3_run (notF hf f1) (notF hf f2) (notF hf f3) q
      · cases h
    · cases h
  | .parT is as, X, sc, fx, st, g, xs, hk, hf, h => by
    unfold chkS at h
    split at h
    · rename_i ts kt pt vs k2 pt2 pos
      simp only [Bool.and_eq_true, decide_eq_true_eq] at h
      obtain ⟨⟨h1, h2⟩, h3⟩ := h
      refine PS.to (ps_asg (pos := pos) (pe_tup (sVs as g hf h3)) (pg_tup (n := ts.length) g.calm (pgNs_ok g xs h1) assign_len (assign_find (chkNs_star h1))) (sw_tgt rfl) (sw_of g.hsc hk h2) rfl) fun D σ H q => parT_run (chkNs_F hf h1) (chkNs_len h1) q
    · cases h
  | .unp t e, X, sc, fx, st, g, xs, hk, hf, h => by
    unfold chkS at h
    split at h
    · rename_i tg v pos
      simp only [Bool.and_eq_true, decide_eq_true_eq, Bool.not_eq_true'] at h
      obtain ⟨⟨⟨⟨⟨h1, h2⟩, h3⟩, h4⟩, h5⟩, h6⟩ := h
      refine PS.to (ps_asg (sE e g hf h6).1 (pg_ok g.hN g.hsc g.nd g.calm (fun x hx => okS_of g xs hx) t tg h3 (allF hf h4)) ?_ ?_ ?_) fun D σ H q => unp_run q
      · exact sw_tgt h1
      · cases tg with
        | Tuple ts k1 p1 =>
          cases v with
          | Tuple vs k2 p2 => exact sw_of g.hsc hk (of_decide_eq_true h5)
          | _ => rfl
        | List ts p1 => cases h5
        | _ => rfl
      · exact assign_one h2
    · cases h
  | .setI i ix e, X, sc, fx, st, g, xs, hk, hf, h => by
    unfold chkS at h
    split at h
    · rename_i x p1 ie p2 v pos
      simp only [Bool.and_eq_true, decide_eq_true_eq] at h
      obtain ⟨⟨⟨⟨⟨h1, h2⟩, h3⟩, h4⟩, h5⟩, h6⟩ := h
      refine PS.to (ps_asg (sE e g hf h6).1 (pg_sub (nameV_ok g h1 h2 h3) (sE ix g hf h5).1 set_list ?_) ?_ rfl rfl) fun D σ H q => setI_run q
      · exact fun w => asg_sub h4
      · exact sw_tgt rfl
    · cases h
  | .app i e, X, sc, fx, st, g, xs, hk, hf, h => by
    unfold chkS at h
    split at h
    · rename_i x p m ap v ks cp pos
      simp only [Bool.and_eq_true, decide_eq_true_eq] at h
      obtain ⟨⟨⟨⟨⟨⟨⟨rfl, h1⟩, h2⟩, h3⟩, h4⟩, h5⟩, h6⟩, h7⟩ := h
      cases ks with
      | cons _ _ => cases h1
      | nil =>
        refine PS.to (ps_expr (pe_bm PySem.F.plainAttrs_list PySem.F.slot_list_append PySem.F.type_list_append mt_append (nameV_ok g h2 h3 h4) (pa_cons (sE e g hf h7).1 pa_nil (star_cons h6)) rfl ?_ h5 (star_cons h6) rfl) rfl) fun D σ H q => app_run q
        rw [star_cons h6]
        rfl
    · cases h
  | .ex e, X, sc, fx, st, g, xs, hk, hf, h => by
    unfold chkS at h
    split at h
    · rename_i v pos
      simp only [Bool.and_eq_true, Bool.not_eq_true'] at h
      exact PS.to (ps_expr (sE e g hf h.2).1 (sw_non h.1)) fun D σ H q => ex_run q
    · cases h
  | .ifS c a b, X, sc, fx, st, g, xs, hk, hf, h => by
    unfold chkS at h
    split at h
    · rename_i ce as bs pos
      simp only [Bool.and_eq_true] at h
      obtain ⟨⟨⟨h1, h2⟩, h3⟩, h4⟩ := h
      exact PS.to (ps_if ((sE c g hf h2).2.1 h1) (sSs a g xs hk hf h3) (sSs b g xs hk hf h4)) fun D σ H q => if_run q
    · cases h
  | .forS t it b, X, sc, fx, st, g, xs, hk, hf, h => by
    unfold chkS at h
    split at h
    · rename_i tg iter bs pos
      simp only [Bool.and_eq_true] at h
      obtain ⟨⟨⟨h1, h2⟩, h3⟩, h4⟩ := h
      have hi := sI (Φ := Φ) it g hf h3
      exact PS.to (ps_for xs.pass g.calm hi.1 (pg_ok g.hN g.hsc g.nd g.calm (fun x hx => okS_of g xs hx) t tg h1 (allF hf h2)) (sSs b g xs hk hf h4) (fun x => hi.2 X.env x)) fun D σ H q => for_run q
    · cases h
  | .whl c b, X, sc, fx, st, g, xs, hk, hf, h => by
    unfold chkS at h
    split at h
    · rename_i ce bs pos
      simp only [Bool.and_eq_true] at h
      obtain ⟨⟨h1, h2⟩, h3⟩ := h
      exact PS.to (ps_while xs.pass ((sE c g hf h2).2.1 h1) (sSs b g xs hk hf h3)) fun D σ H q => while_run q
    · cases h
  | .ret e, X, sc, fx, st, g, xs, hk, hf, h => by
    unfold chkS at h
    split at h
    · exact PS.to (ps_ret (sE e g hf h).1) fun D σ H q => ret_run q
    · cases h
  | .retV i, X, sc, fx, st, g, xs, hk, hf, h => by
    unfold chkS at h
    split at h
    · simp only [Bool.and_eq_true, decide_eq_true_eq] at h
      exact PS.to (ps_ret (nameV_ok g h.1.1 h.1.2 h.2)) fun D σ H q => retV_run q
    · cases h
    · cases h
  | .brk, X, sc, fx, st, g, xs, hk, hf, h => by
    unfold chkS at h
    split at h
    · exact PS.to ps_break fun D σ H q => (fin_run q).1 rfl
    · cases h
  | .cont, X, sc, fx, st, g, xs, hk, hf, h => by
    unfold chkS at h
    split at h
    · exact PS.to ps_continue fun D σ H q => (fin_run q).2.1 rfl
    · cases h
  | .pass, X, sc, fx, st, g, xs, hk, hf, h => by
    unfold chkS at h
    split at h
    · exact PS.to ps_pass fun D σ H q => (fin_run q).2.2.1 rfl
    · exact PS.to ps_doc fun D σ H q => (fin_run q).2.2.1 rfl
    · cases h
  | .never, X, sc, fx, st, g, xs, hk, hf, h => PS.to ps_never fun D σ H q => ((fin_run q).2.2.2 rfl).elim
theorem sSs : ∀ (ms : MSs) {X : Cx} {sc : Scope} {fx : List (Nat × V)} {sts : List Stmt}, XG S N C k sc X → XS X → sc.kind = .function → (∀ p ∈ fx, p.1 ∈ F) → chkSs S N F sc ms sts = true → PSs X sts (tMs X.K C Φ fx ms)
  | .nil, X, sc, fx, sts, g, xs, hk, hf, h => by
    cases sts with
    | cons _ _ => simp [chkSs] at h
    | nil =>
      refine PSs.to pss_nil fun D σ H q => ?_
      obtain ⟨ρ, tm, o, hd, r, k⟩ := q
      unfold execs at hd
      cases hd
      exact k _ _ r
  | .cons m r, X, sc, fx, sts, g, xs, hk, hf, h => by
    cases sts with
    | nil => simp [chkSs] at h
    | cons st sts =>
      simp only [chkSs, Bool.and_eq_true] at h
      exact PSs.to (pss_cons (sS m g xs hk hf h.1) (sSs r g xs hk hf h.2)) fun D σ H q => seq_run q
end
end
end Eng
set_option Elab.async false
set_option linter.all false
set_option maxRecDepth 100000
set_option maxHeartbeats 4000000
/-! Eng19: a def keeps to its evaluator. -/
namespace Eng
open PySem PySem.Spec PyProof.Rows L2 StX RZ

theorem allSome_of : ∀ {l : List (Option Val)} {ys : List Val}, allSome l = some ys → l = ys.map some
  | [], ys, h => by cases h; rfl
  | some x :: l, ys, h => by
    unfold allSome at h
    obtain ⟨zs, h1, rfl⟩ := Option.map_eq_some_iff.mp h
    rw [allSome_of h1]; rfl
  | none :: l, ys, h => by cases h
theorem pr_nones : ∀ (n : Nat), PR (List.replicate n none) (List.replicate n none) []
  | 0 => .nil
  | n + 1 => .skip (pr_nones n)
theorem pr_start : ∀ {xs : List Val} {vs : List V} (n : Nat), xs.length = vs.length → PR (xs.map some ++ List.replicate n none) (vs.map some ++ List.replicate n none) (xs.zip vs)
  | [], [], n, _ => pr_nones n
  | [], _ :: _, _, h => by simp at h
  | _ :: _, [], _, h => by simp at h
  | x :: xs, v :: vs, n, h => .cons (pr_start n (by simpa using h))
theorem pr_end : ∀ {xs ys : List Val} {vs : List V} {ρ : Env} {σ : Sl} {ps : List Pr}, xs.length = vs.length → ys.length = xs.length → PR (ys.map some ++ ρ) σ ps →
    (∀ i : Nat, (∃ us, xs[i]? = some (.own us)) → σ[i]? = (vs[i]?).map some) → ∃ zs, (((afts xs ys).zip vs) ++ zs).Perm (ps ++ (xs.zip vs).filter fun q => !isOw q)
  | [], _, [], _, _, ps, _, _, _, _ => ⟨ps, by simp [afts]⟩
  | [], _, _ :: _, _, _, _, h, _, _, _ => by simp at h
  | _ :: _, _, [], _, _, _, h, _, _, _ => by simp at h
  | x :: xs, [], v :: vs, _, _, _, _, h, _, _ => by simp at h
  | x :: xs, y :: ys, v :: vs, ρ, σ, ps, h1, h2, p, hs => by
    rw [List.map_cons, List.cons_append] at p
    cases p with
    | cons p =>
      rename_i σ' ps' u
      obtain ⟨zs, hz⟩ := pr_end (xs := xs) (ys := ys) (vs := vs) (by simpa using h1) (by simpa using h2) p fun i hi => by
        have := hs (i + 1) (by simpa using hi)
        simpa using this
      cases x with
      | own us =>
        have e := hs 0 ⟨us, rfl⟩
        simp at e
        subst e
        refine ⟨zs, ?_⟩
        rw [List.zip_cons_cons, List.filter_cons_of_neg (by simp [isOw])]
        exact List.Perm.cons _ hz
      | d t =>
        refine ⟨(y, u) :: zs, ?_⟩
        rw [List.zip_cons_cons, List.filter_cons_of_pos (by simp [isOw])]
        show ((Val.d t, v) :: ((afts xs ys).zip vs ++ (y, u) :: zs)).Perm ((y, u) :: (ps' ++ (Val.d t, v) :: _))
        refine ((List.Perm.cons _ List.perm_middle).trans (List.Perm.swap _ _ _)).trans (List.Perm.cons _ ?_)
        exact (List.Perm.cons _ hz).trans List.perm_middle.symm
/-- frozen arguments stay in hand -/
theorem Good.dup {K : PySem.W.Frag} {Φ : Fm} {H : Hp} : ∀ {us qs : List Pr}, Good K Φ H qs → (∀ q ∈ us, q ∈ qs ∧ isOw q = false) → Good K Φ H (qs ++ us) := by
  intro us
  induction us with
  | nil => intro qs g _; rw [List.append_nil]; exact g
  | cons q us ih =>
    intro qs g h
    have hq := h q List.mem_cons_self
    have g1 : Good K Φ H (qs ++ [q]) := by
      obtain ⟨x, v⟩ := q
      cases x with
      | d t => exact g.add (g.atD hq.1)
      | own ts => exact absurd hq.2 (by simp [isOw])
    rw [List.append_cons]
    exact ih g1 fun z hz => ⟨List.mem_append_left _ (h z (List.mem_cons_of_mem _ hz)).1, (h z (List.mem_cons_of_mem _ hz)).2⟩

/-- the parameters that keep their values -/
def keepF (asg : List Nat) (n : Nat) : List Nat := (List.range n).filter fun i => !asg.contains i
def keepFx (asg : List Nat) (vs : List V) : List (Nat × V) := (keepF asg vs.length).filterMap fun i => (vs[i]?).map fun v => (i, v)
theorem keepFx_mem {asg : List Nat} {vs : List V} {p : Nat × V} (h : p ∈ keepFx asg vs) : p.1 ∈ keepF asg vs.length ∧ vs[p.1]? = some p.2 := by
  obtain ⟨i, hi, e⟩ := List.mem_filterMap.mp h
  obtain ⟨v, e1, e2⟩ := Option.map_eq_some_iff.mp e
  subst e2
  exact ⟨hi, e1⟩
theorem keepFx_has {asg : List Nat} {vs : List V} {i : Nat} {v : V} (h : vs[i]? = some v) (n : i ∉ asg) : (i, v) ∈ keepFx asg vs := by
  refine List.mem_filterMap.mpr ⟨i, ?_, by rw [h]; rfl⟩
  have hl : i < vs.length := by
    rcases Nat.lt_or_ge i vs.length with z | z
    · exact z
    · rw [List.getElem?_eq_none z] at h; cases h
  exact List.mem_filter.mpr ⟨List.mem_range.mpr hl, by simpa using n⟩

/-- what a def of the program is, beside the own text -/
structure DefAt (K : PySem.W.Frag) (mg : Str → Option Value) (S : Sg) (fd : Fd) (x : Str) (ps : List Str) (kws : List (List Str × List Nat)) (f : Addr) (fdata : FuncData) : Prop where
  ex : ∃ (st : Stmt) (qual : Str), mg x = some (.ref f) ∧ PySem.W.keepIn K (.ref f) = true ∧ Fun K x qual st f fdata ∧ FnScope fd.N ps (defScope st) ∧ fd.ps.length = ps.length ∧
    chkSs S fd.N (keepF fd.asg ps.length) (defScope st) fd.body (defBody st) = true ∧
    (∀ us : List Value, us.length = ps.length → bindArgs fdata ⟨us, []⟩ = pure (ps.zip us)) ∧
    ∀ q ∈ kws, ∀ ws us : List Value, ws.length = q.1.length → pick ws q.2 = some us → bindArgs fdata ⟨[], q.1.zip ws⟩ = pure (ps.zip us)
/-- what the module is, beside the own texts -/
structure TabAt (K : PySem.W.Frag) (mg : Str → Option Value) (S : Sg) (T : List Fd) (gl : Nat → Option D) : Prop where
  bl : ∀ x ∈ blNames, mg x = none
  gcd : ("gcd" : Str) ∈ S.gs → mg "gcd" = some (.builtin "math.gcd")
  gl : ∀ (i : Nat) (x : Str) (t : D), S.gs[i]? = some x → gl i = some t → ∃ (u : Value) (v : V), mg x = some u ∧ RelV v u ∧ ∀ F, At K F v t
  fs : ∀ (i : Nat) (x : Str) (ps : List Str) (kws : List (List Str × List Nat)), S.fs[i]? = some (x, ps, kws) → ∃ (fd : Fd) (f : Addr) (fdata : FuncData), T[i]? = some fd ∧ DefAt K mg S fd x ps kws f fdata
section
variable {P : Program} {w : World} {K : PySem.W.Frag} {mg : Str → Option Value} {base : Heap} {S : Sg} {T : List Fd} {gl : Nat → Option D}
theorem fn_none {K : PySem.W.Frag} {n : Nat} {vs : List V} {H : Hp} {Q : VK} {E : XK} (h : spF K n (fun _ => none) vs H Q E) : False := by
  obtain ⟨_, xs, Φ, w, ws, h1, _⟩ := h
  cases h1
theorem body_run {C : Ctx} {fd : Fd} {n : Nat} {vs : List V} {H : Hp} {Q : VK} (hp : fd.ps.length = n) (h : spF K n (fun xs => runF C fd xs) vs H Q E0) :
    ∃ Φ, vs.length = n ∧ tMs K C Φ (keepFx fd.asg vs) fd.body { nx := fun _ H' => Q .non H', rt := Q } (L2.start fd.N vs) H := by
  obtain ⟨hn, xs, Φ, w, ws, h1, h2, h3, g, k⟩ := h
  refine ⟨Φ, hn, ?_⟩
  have h1 : runF C fd xs = some (w, ws) := h1
  unfold runF at h1
  split at h1
  · rename_i hc
    obtain ⟨hc1, hc2⟩ := hc
    obtain ⟨o, h4, h5⟩ := Option.bind_eq_some_iff.mp h1
    clear h1
    have hN : fd.N.length - fd.ps.length = fd.N.length - vs.length := by rw [hp, hn]
    rw [hN] at h4
    have g1 : Good K Φ H (xs.zip vs ++ (xs.zip vs).filter fun q => !isOw q) := g.dup fun q hq => ⟨(List.mem_filter.mp hq).1, by simpa using (List.mem_filter.mp hq).2⟩
    have fxs : ∀ p ∈ keepFx fd.asg vs, (L2.start fd.N vs)[p.1]? = some (some p.2) := fun p hq => by
      have e := (keepFx_mem hq).2
      have hl : p.1 < vs.length := by
        rcases Nat.lt_or_ge p.1 vs.length with z | z
        · exact z
        · rw [List.getElem?_eq_none z] at e; cases e
      unfold L2.start
      rw [List.getElem?_append_left (by rw [List.length_map]; exact hl), List.getElem?_map, e]
      rfl
    refine ⟨_, (xs.zip vs).filter fun q => !isOw q, o, h4, ⟨xs.zip vs, pr_start _ h2, g1, fxs⟩, ?_⟩
    have fin : ∀ {ρ : Env} {ys : List Val} {v : Val} {y : V} {σ : Sl} {H' : Hp}, allSome (ρ.take xs.length) = some ys → ys.length = xs.length → RS K Φ (keepFx fd.asg vs) ρ (((xs.zip vs).filter fun q => !isOw q) ++ [(v, y)]) σ H' →
        Good K Φ H' ((afts xs ys).zip vs ++ [(v, y)]) := fun {ρ ys v y σ H'} e1 e2 r => by
      obtain ⟨ps, p, g2, f⟩ := r
      have e3 := allSome_of e1
      have e4 : ρ = ys.map some ++ ρ.drop xs.length := by rw [← e3, List.take_append_drop]
      rw [e4] at p
      obtain ⟨zs, hz⟩ := pr_end h2 e2 p fun i hi => by
        obtain ⟨us, hu⟩ := hi
        have na : i ∉ fd.asg := fun m => by
          have := List.all_eq_true.mp hc2 i m
          rw [hu] at this
          cases this
        have hl : i < vs.length := by
          rcases Nat.lt_or_ge i xs.length with z | z
          · rw [← h2]; exact z
          · rw [List.getElem?_eq_none z] at hu; cases hu
        have hv : vs[i]? = some vs[i] := by simp [hl]
        rw [hv]
        exact f _ (keepFx_has hv na)
      refine g2.less (zs := zs) ?_
      have e5 : ((afts xs ys).zip vs ++ [(v, y)] ++ zs).Perm ((afts xs ys).zip vs ++ zs ++ [(v, y)]) := by
        rw [List.append_assoc, List.append_assoc]
        exact .append_left _ List.perm_append_comm
      refine e5.trans ((List.Perm.append_right _ hz).trans ?_)
      rw [List.append_assoc]
    cases o with
    | nx ρ =>
      obtain ⟨ys, h6, h7⟩ := Option.map_eq_some_iff.mp h5
      cases h7
      intro σ' H' r
      exact k _ _ (fin h6 h3 (r.push fun F => .non))
    | rt v ρ =>
      obtain ⟨ys, h6, h7⟩ := Option.map_eq_some_iff.mp h5
      cases h7
      intro y σ' H' r
      exact k _ _ (fin h6 h3 r)
    | bk ρ => cases h5
    | ct ρ => cases h5
  · cases h1
/-- all defs, by the depth of calls -/
theorem all_defs (t : TabAt K mg S T gl) : ∀ (n i : Nat) (x : Str) (ps : List Str) (kws : List (List Str × List Nat)), S.fs[i]? = some (x, ps, kws) → ∃ (f : Addr) (fdata : FuncData), mg x = some (.ref f) ∧ PySem.W.keepIn K (.ref f) = true ∧
    (∀ base : Heap, FnG P w K mg base n f fdata ps (spF K ps.length ((ctx T gl n).fn i))) ∧ (∀ us : List Value, us.length = ps.length → bindArgs fdata ⟨us, []⟩ = pure (ps.zip us)) ∧
    ∀ q ∈ kws, ∀ ws us : List Value, ws.length = q.1.length → pick ws q.2 = some us → bindArgs fdata ⟨[], q.1.zip ws⟩ = pure (ps.zip us)
  | 0, i, x, ps, kws, h => by
    obtain ⟨fd, f, fdata, hT, hd⟩ := t.fs i x ps kws h
    obtain ⟨st, qual, h1, h2, h3, h4, h5, h6, h7, h8⟩ := hd.ex
    exact ⟨f, fdata, h1, h2, fun base => ⟨fun vs H Q E h => (fn_none h).elim, fun A outer s H args us vs Q _ _ _ _ _ h => (fn_none h).elim⟩, h7, h8⟩
  | n + 1, i, x, ps, kws, h => by
    obtain ⟨fd, f, fdata, hT, hd⟩ := t.fs i x ps kws h
    obtain ⟨st, qual, h1, h2, h3, h4, h5, h6, h7, h8⟩ := hd.ex
    have hC : (ctx T gl (n + 1)).fn i = fun xs => runF (ctx T gl n) fd xs := by
      funext xs
      show (T[i]?.bind fun f => runF (ctx T gl n) f xs) = _
      rw [hT]
      rfl
    refine ⟨f, fdata, h1, h2, fun base => ?_, h7, h8⟩
    rw [hC]
    refine fnG_of h3 h4 (fun vs H Q E h => h.1) fun cdv A outer s H vs Q hg hr hsp => ?_
    obtain ⟨Φ, hl, hm⟩ := body_run h5 hsp
    have g : XG S fd.N (ctx T gl n) n (defScope st) (cxOf CX0 P w K mg base fd.N qual (defScope st) f cdv A outer s H E0).nox := {
      hN := rfl
      hsc := rfl
      calm := rfl
      nd := h4.nd
      guards := hg
      room := hr
      bl := t.bl
      gcd := t.gcd
      gl := fun i x u e1 e2 => t.gl i x u e1 (by cases n <;> exact e2)
      fn := fun i x ps kws h => by
        obtain ⟨f1, fd1, q1, q2, q3, q4, q5⟩ := all_defs t n i x ps kws h
        exact ⟨f1, fd1, q1, q2, q3 base, q4, q5⟩ }
    exact ⟨_, sSs (Φ := Φ) (F := keepF fd.asg ps.length) fd.body (fx := keepFx fd.asg vs) g ⟨PassesOwn.never, fun _ => rfl⟩ h4.kind (fun p hp => by rw [← hl]; exact (keepFx_mem hp).1) h6, hm⟩
end
end Eng
set_option Elab.async false
set_option linter.all false
set_option maxRecDepth 100000
set_option maxHeartbeats 4000000
/-! Eng20: the law's end: from the own evaluator's answer to the statement. -/
namespace Eng
open PySem PySem.Spec PyProof.Rows L2 StX RZ

theorem fun_of_D {K : PySem.W.Frag} {x qual : Str} {st : Stmt} {kws : List (Str × V)} {f : Addr} {fd : FuncData} (F : FunD K x qual (defArgs st) (defBody st) (defScope st) [] kws f fd) : Fun K x qual st f fd := by
  obtain ⟨oc, od, dV, kV, doc, pm, an, cdv, ct, osl, e1, lk, hcd, hD, hK⟩ := F.ex
  have e2 : dV = .none := by
    rcases hD with ⟨_, e⟩ | ⟨e, _⟩
    · exact e
    · exact absurd rfl e
  subst e2
  exact ⟨⟨oc, od, kV, doc, pm, an, cdv, ct, osl, e1, lk, hcd⟩, F.kp⟩
/-- how the arguments of a def of the text bind: said of the row's own form -/
def BindsP (x : Str) (st : Stmt) (ps : List Str) : Prop := ∀ (kV doc pm : Value) (an : Option Addr) (cdv ct : Value) (us : List Value), us.length = ps.length → bindArgs (PySem.W.fnOf x x (defArgs st) (defBody st) (defScope st) .none kV doc pm an cdv ct) ⟨us, []⟩ = pure (ps.zip us)
def BindsK (x : Str) (st : Stmt) (ps : List Str) (q : List Str × List Nat) : Prop := ∀ (kV doc pm : Value) (an : Option Addr) (cdv ct : Value) (ws us : List Value), ws.length = q.1.length → pick ws q.2 = some us →
  bindArgs (PySem.W.fnOf x x (defArgs st) (defBody st) (defScope st) .none kV doc pm an cdv ct) ⟨[], q.1.zip ws⟩ = pure (ps.zip us)
theorem defAt_mk {K : PySem.W.Frag} {mg : Str → Option Value} {S : Sg} {fd : Fd} {x : Str} {ps : List Str} {kws : List (List Str × List Nat)} {f : Addr} {fdata : FuncData} {st : Stmt} (hm : mg x = some (.ref f)) (F : Fun K x x st f fdata) (sc : FnScope fd.N ps (defScope st)) (hp : fd.ps.length = ps.length)
    (hc : chkSs S fd.N (keepF fd.asg ps.length) (defScope st) fd.body (defBody st) = true) (hb : BindsP x st ps) (hk : ∀ q ∈ kws, BindsK x st ps q) : DefAt K mg S fd x ps kws f fdata := by
  obtain ⟨oc, od, kV, doc, pm, an, cdv, ct, osl, e1, lk, hcd⟩ := F.ex
  refine ⟨st, x, hm, F.kp, F, sc, hp, hc, fun us hl => ?_, fun q hq ws us hl hu => ?_⟩
  · rw [e1]; exact hb kV doc pm an cdv ct us hl
  · rw [e1]; exact hk q hq kV doc pm an cdv ct ws us hl hu
inductive DefsAt (K : PySem.W.Frag) (mg : Str → Option Value) (S : Sg) : List Fd → List (Str × List Str × List (List Str × List Nat)) → Prop
  | nil : DefsAt K mg S [] []
  | cons {fd : Fd} {x : Str} {ps : List Str} {kws : List (List Str × List Nat)} {T : List Fd} {fs : List (Str × List Str × List (List Str × List Nat))} : (∃ f fdata, DefAt K mg S fd x ps kws f fdata) → DefsAt K mg S T fs → DefsAt K mg S (fd :: T) ((x, ps, kws) :: fs)
theorem DefsAt.get {K : PySem.W.Frag} {mg : Str → Option Value} {S : Sg} : ∀ {T : List Fd} {fs : List (Str × List Str × List (List Str × List Nat))}, DefsAt K mg S T fs → ∀ (i : Nat) (x : Str) (ps : List Str) (kws : List (List Str × List Nat)), fs[i]? = some (x, ps, kws) →
    ∃ (fd : Fd) (f : Addr) (fdata : FuncData), T[i]? = some fd ∧ DefAt K mg S fd x ps kws f fdata
  | _, _, .nil, i, x, ps, kws, h => by simp at h
  | _, _, .cons h r, 0, x, ps, kws, e => by
    simp at e
    obtain ⟨rfl, rfl, rfl⟩ := e
    obtain ⟨f, fdata, h⟩ := h
    exact ⟨_, f, fdata, rfl, h⟩
  | _, _, .cons h r, i + 1, x, ps, kws, e => by
    obtain ⟨fd, f, fdata, h1, h2⟩ := r.get i x ps kws (by simpa using e)
    exact ⟨fd, f, fdata, by simpa using h1, h2⟩

/-! ### the module's own values -/
mutual
def datB (K : PySem.W.Frag) : D → Value → Bool
  | .none, u => (match u with
    | .none => true
    | _ => false)
  | .bool b, u => (match u with
    | .bool c => b == c
    | _ => false)
  | .int i, u => (match u with
    | .int j _ => decide (i = j)
    | _ => false)
  | .str x, u => (match u with
    | .str y _ => decide (x = y)
    | _ => false)
  | .tuple ts, u => (match u with
    | .ref a => (match K.lookup a with
      | some o => decide (o.cls = .type "tuple") && (match o.data with
        | .seq its _ => decide (its.size ≤ sizeLine) && datBs K ts its.toList
        | _ => false)
      | none => false)
    | _ => false)
  | .list _, _ => false
  | .dict _, _ => false
def datBs (K : PySem.W.Frag) : List D → List Value → Bool
  | [], us => us.isEmpty
  | t :: ts, us => (match us with
    | u :: us => datB K t u && datBs K ts us
    | [] => false)
end
mutual
theorem datB_ok {K : PySem.W.Frag} : ∀ (t : D) (u : Value), datB K t u = true → ∃ v, RelV v u ∧ ∀ F, At K F v t
  | .none, u, h => by
    unfold datB at h
    split at h
    · exact ⟨.non, rfl, fun F => .non⟩
    · cases h
  | .bool b, u, h => by
    unfold datB at h
    split at h
    · rw [eq_of_beq h]; exact ⟨.bl _, rfl, fun F => .bl _⟩
    · cases h
  | .int i, u, h => by
    unfold datB at h
    split at h
    · rw [of_decide_eq_true h]; exact ⟨.int _, ⟨_, rfl⟩, fun F => .int _⟩
    · cases h
  | .str x, u, h => by
    unfold datB at h
    split at h
    · rw [of_decide_eq_true h]; exact ⟨.str _, ⟨_, rfl⟩, fun F => .str _⟩
    · cases h
  | .tuple ts, u, h => by
    unfold datB at h
    split at h
    · rename_i a
      split at h
      · rename_i o ho
        simp only [Bool.and_eq_true, decide_eq_true_eq] at h
        obtain ⟨h1, h2⟩ := h
        split at h2
        · rename_i its n hd
          simp only [Bool.and_eq_true, decide_eq_true_eq] at h2
          obtain ⟨vs, r, aa⟩ := datBs_ok ts its.toList h2.2
          exact ⟨.ref a, rfl, fun F => .tup (.inr ⟨o, its, n, ho, h1, hd, h2.1, r⟩) (aa F)⟩
        · cases h2
      · cases h
    · cases h
  | .list _, _, h => by simp [datB] at h
  | .dict _, _, h => by simp [datB] at h
theorem datBs_ok {K : PySem.W.Frag} : ∀ (ts : List D) (us : List Value), datBs K ts us = true → ∃ vs, Vals vs us ∧ ∀ F, AtAll K F vs ts
  | [], us, h => by
    cases us with
    | nil => exact ⟨[], .nil, fun F => .nil⟩
    | cons _ _ => simp [datBs] at h
  | t :: ts, us, h => by
    cases us with
    | nil => simp [datBs] at h
    | cons u us =>
      simp only [datBs, Bool.and_eq_true] at h
      obtain ⟨v, r, a⟩ := datB_ok t u h.1
      obtain ⟨vs, rs, aa⟩ := datBs_ok ts us h.2
      exact ⟨v :: vs, .cons r rs, fun F => .cons (a F) (aa F)⟩
end
def globB (K : PySem.W.Frag) (x : Str) : Option D → Bool
  | some t => (match PySem.W.nsIn K mainGlobals x with
    | some (some u) => datB K t u
    | _ => false)
  | none => if x = ("gcd" : Str) then decide (PySem.W.nsIn K mainGlobals x = some (some (.builtin "math.gcd"))) else true
def globs (K : PySem.W.Frag) : List (Str × Option D) → Bool
  | [] => true
  | q :: r => globB K q.1 q.2 && globs K r
theorem globs_at {K : PySem.W.Frag} : ∀ {l : List (Str × Option D)}, globs K l = true → ∀ (i : Nat) (q : Str × Option D), l[i]? = some q → globB K q.1 q.2 = true
  | [], _, i, q, h => by simp at h
  | p :: r, h, 0, q, e => by
    simp at e; subst e
    exact (Bool.and_eq_true_iff.mp h).1
  | p :: r, h, i + 1, q, e => globs_at (Bool.and_eq_true_iff.mp h).2 i q (by simpa using e)
/-- the built-ins that no name of the module hides -/
def freeAll (K : PySem.W.Frag) : Bool := blNames.all fun x => decide (PySem.W.nsIn K mainGlobals x = some none)
def glOf (gv : List (Str × Option D)) (i : Nat) : Option D := (gv[i]?).bind (·.2)
theorem tab_of {K : PySem.W.Frag} {h : Heap} {mg : Str → Option Value} {S : Sg} {T : List Fd} {gv : List (Str × Option D)} (X : K.In h) (G : h.Ns mainGlobals mg) (hgs : S.gs = gv.map (·.1)) (hg : (gv.lookup ("gcd" : Str)).join = none ∨ ("gcd" : Str) ∉ S.gs) (e1 : globs K gv = true) (e2 : freeAll K = true) (e3 : ∀ q ∈ gv, q.1 = ("gcd" : Str) → q.2 = none) (d : DefsAt K mg S T S.fs) : TabAt K mg S T (glOf gv) where
  bl := fun x hx => PySem.W.mg_none_of X G (of_decide_eq_true (List.all_eq_true.mp e2 x hx))
  gcd := fun hm => by
    rw [hgs] at hm
    obtain ⟨q, hq, e⟩ := List.mem_map.mp hm
    obtain ⟨i, hi⟩ := List.mem_iff_getElem?.mp hq
    have := globs_at e1 i q hi
    rw [e3 q hq e, e] at this
    unfold globB at this
    rw [if_pos rfl] at this
    exact PySem.W.mg_of X G (of_decide_eq_true this)
  gl := fun i x t h1 h2 => by
    rw [hgs, List.getElem?_map] at h1
    obtain ⟨q, hq, e⟩ := Option.map_eq_some_iff.mp h1
    have h3 : (gv[i]?).bind (·.2) = some t := h2
    rw [hq] at h3
    have h4 : q.2 = some t := h3
    have := globs_at e1 i q hq
    rw [h4, e] at this
    simp only [globB] at this
    split at this
    · rename_i u hu
      obtain ⟨v, r, a⟩ := datB_ok t u this
      exact ⟨u, v, PySem.W.mg_of X G hu, r, a⟩
    · cases this
  fs := fun i x ps kws h => d.get i x ps kws h

/-! ### the head's facts -/
def hookM (n : Nat) (fa : List He.Fa) (fn : List He.DefD) (gv : List (Str × Option D)) : PySem.W.Hook where
  α := He.AlD × Bool
  obs := fun s => (He.obsD fa fn (He.frG s.heap.get? (He.asD s.heap.get? n)), globs (He.frG s.heap.get? (He.asD s.heap.get? n)) gv && freeAll (He.frG s.heap.get? (He.asD s.heap.get? n)))
  val := fun _ => (He.valD fn, true)
  says := fun _ h => ∃ K : PySem.W.Frag, K.In h ∧ He.SaysD fa fn K ∧ globs K gv = true ∧ freeAll K = true
  of := fun _ _ e => ⟨_, He.frG_in, congrArg (fun z : He.AlD × Bool => z.1) e, Bool.and_eq_true_iff.mp (congrArg (fun z : He.AlD × Bool => z.2) e)⟩
  keeps := fun _ _ _ ⟨K, hK, c⟩ k => ⟨K, PySem.W.Frag.In.keeps hK k, c⟩
def obM (n : Nat) (fa : List He.Fa) (fn : List He.DefD) (gv : List (Str × Option D)) (g : Addr → Option Obj) : He.AlD × Bool := (He.obsD fa fn (He.frG g (He.asD g n)), globs (He.frG g (He.asD g n)) gv && freeAll (He.frG g (He.asD g n)))
theorem obM_eq {n : Nat} {fa : List He.Fa} {fn : List He.DefD} {gv : List (Str × Option D)} {g : Addr → Option Obj} {s : Shared} (h : ∀ a, g a = s.heap.get? a) : obM n fa fn gv g = (hookM n fa fn gv).obs s := by
  have e : g = s.heap.get? := funext h
  rw [e]
  rfl

/-! ### the law -/
theorem atAll_ints {K : PySem.W.Frag} {F : Hp} : ∀ ns : List Int, AtAll K F (ns.map V.int) (ns.map PyData.int)
  | [] => .nil
  | n :: ns => .cons (.int n) (atAll_ints ns)
theorem law_go {P : Program} {w : World} {K : PySem.W.Frag} {mg mb : Str → Option Value} {k : Nat} {fa a : Addr} {fd : FuncData} {x : Str} {fn : List Val → Option (Val × List Val)} {s1 : Shared} {us : List Value} {ns : List Int}
    (inK : K.In s1.heap) (nsG : s1.heap.Ns mainGlobals mg) (nsB : s1.heap.Ns builtinsNs mb) (nsBB : ∀ x : Str, x ≠ "__name__" → mb x = bootBuiltins x) (nl : s1.heap.NoLimit) (ng : s1.gens = #[])
    (oa : s1.heap.get? a = some { cls := .type "list", data := .seq us.toArray }) (ia : IntsAre us ns) (la : ns.length ≤ sizeLine) (rm : Room k callerA)
    (F : ∀ base : Heap, K.In base → base.Ns mainGlobals mg → FnG P w K mg base k fa fd [x] (spF K 1 fn)) (bnd : ∀ us : List Value, us.length = 1 → bindArgs fd ⟨us, []⟩ = pure ([x].zip us))
    (ans : ∃ ws, fn [.d (.list (ns.map PyData.int))] = some (.d (.bool true), ws) ∧ ws.length = 1) :
    codeAny (model P w) callerA (.call (.ref fa) ⟨[.ref a], []⟩) (fun r t => r = .ok (.ret (.bool true)) ∧ OldK s1.heap t.heap ∧ t.os = s1.os ∧ AllBare t.gens) s1 := by
  have ra := vals_ints ia
  have eL := ia.length
  have gd : callerA.guards = some [] := rfl
  -- from a heap in which the script alone may be tracked
  have main : ∀ H : Hp, Only H → LR K H a (ns.map V.int) → HOk P w H s1.heap → (∀ b, H b ≠ none → b = a) → (H a ≠ none → K.lookup a = none) →
      codeAny (model P w) callerA (.call (.ref fa) ⟨[.ref a], []⟩) (fun r t => r = .ok (.ret (.bool true)) ∧ OldK s1.heap t.heap ∧ t.os = s1.os ∧ AllBare t.gens) s1 := by
    intro H on lr hok only nok
    have lone : ∀ {b : Addr}, H b ≠ none → b = a := fun {b} z => only b z
    have noDict : ∀ {b : Addr} {o : Obj} {es : Array DictEntry} {ep : Nat}, s1.heap.get? b = some o → o.data = .dict es ep → H b = none := fun {b o es ep} e d => by
      by_cases z : H b = none
      · exact z
      · have eb := lone z
        subst eb
        rw [oa] at e
        cases e
        have d2 : Data.seq us.toArray _ = Data.dict es ep := d
        cases d2
    have nsH : ∀ {b : Addr} {m : Str → Option Value}, s1.heap.Ns b m → (hidT s1.heap H).Ns b m := fun {b m} q => by
      obtain ⟨o, es, ep, e, d, r⟩ := q
      exact ⟨o, es, ep, hidT_get e (noDict e d), d, r⟩
    have inH : K.In (hidT s1.heap H) := fun b o e => hidT_get (inK b o e) (by
      by_cases z : H b = none
      · exact z
      · have eb := lone z
        subst eb
        rw [nok z] at e
        cases e)
    have md : Mod K mg (hidT s1.heap H) := ⟨inH, nsH nsG, ⟨mb, nsH nsB, nsBB⟩, by
      obtain ⟨mc, q1, q2⟩ := nl
      exact ⟨mc, nsH q1, q2⟩⟩
    have en : Env0 P w K mg (hidT s1.heap H) callerA [] s1 H := ⟨rfl, md, fun b o e => of_hidT e, Nat.le_of_eq (hidT_size _ _), trivial, fun b hb => by simp [frs] at hb, hok, .of_eq ng⟩
    have sp : spF K 1 fn [.ref a] H (fun v _ => v = .bl true) E0 := by
      obtain ⟨ws, q1, q2⟩ := ans
      refine ⟨rfl, [.d (.list (ns.map PyData.int))], ⟨fun _ => none, []⟩, .d (.bool true), ws, q1, rfl, q2, ?_, fun y H' g => g.bool (x := .d (.bool true)) (v := y) (by simp) rfl⟩
      refine ⟨List.nodup_nil, fun q hq => ?_, fun b o e => (by cases e), fun b hb => (by cases hb)⟩
      have eq1 : q = (Val.d (.list (ns.map PyData.int)), V.ref a) := by simpa using hq
      subst eq1
      refine RV.d (.lst (LR.mono ?_ lr) (atAll_ints ns))
      intro b o e
      show less H [] b = some o
      unfold less
      rw [if_neg (by simp)]
      exact e
    refine codeAny_mono ((F _ inH (nsH nsG)).run callerA [] s1 H ⟨[.ref a], []⟩ [.ref a] [.ref a] _ gd rm en (.of_eq (bnd [.ref a] rfl)) (.cons rfl .nil) sp) fun r t q => ?_
    match r, q with
    | .ok (.ret u), q =>
      obtain ⟨v, H', q1, q2, un, hok2, q3, q4⟩ := q
      have ev : v = .bl true := q4
      subst ev
      have eu : u = Value.bool true := q3
      subst eu
      refine ⟨rfl, OldK.of_keep fun b o e => ?_, q1, q2⟩
      rcases on b with z | ⟨ob, xs, z⟩
      · exact un.keep b o e z (by simp [frs]) (by simp)
      · obtain ⟨e1, _⟩ := hok b _ z
        obtain ⟨e2, _⟩ := hok2 b _ (un.frzs b ob _ z)
        rw [e] at e1
        cases e1
        exact e2
    | .ok .next, q => exact False.elim q
    | .ok .brk, q => exact False.elim q
    | .ok .cont, q => exact False.elim q
    | .error _, q => exact False.elim q
  cases hk : K.lookup a with
  | some o =>
    have e := inK a o hk
    rw [oa] at e
    cases e
    exact main (fun _ => none) (fun _ => .inl rfl) (.inr ⟨us, _, hk, by rw [eL]; exact la, ra⟩) (fun b u z => by cases (show (none : Option HO) = some u from z)) (fun b z => absurd rfl z) (fun z => absurd rfl z)
  | none =>
    have here : ∀ b, (fun c => if c = a then some (HO.frz { cls := .type "list", data := .seq us.toArray } (.lst (ns.map V.int))) else none : Hp) b = if b = a then some (HO.frz { cls := .type "list", data := .seq us.toArray } (.lst (ns.map V.int))) else none := fun _ => rfl
    refine main (fun c => if c = a then some (HO.frz { cls := .type "list", data := .seq us.toArray } (.lst (ns.map V.int))) else none) (fun b => ?_) (.inl (.inr ⟨_, if_pos rfl⟩)) (fun b u z => ?_) (fun b z => ?_) fun _ => hk
    · by_cases e : b = a
      · exact .inr ⟨_, _, if_pos e⟩
      · exact .inl (if_neg e)
    · by_cases e : b = a
      · have z2 := (if_pos e).symm.trans z
        cases z2
        subst e
        exact ⟨oa, by rw [List.length_map]; exact la, us, _, ra, oa⟩
      · cases (if_neg e).symm.trans z
    · by_cases e : b = a
      · exact e
      · exact absurd (if_neg e) z
end Eng
set_option Elab.async false
set_option linter.all false
set_option maxRecDepth 100000
set_option maxHeartbeats 4000000
/-! Eng21: the evaluator in plain Lean: words to run it by simp, loops by invariants. -/
namespace Eng
open PySem PySem.Spec L2

theorem slotV_eq (ρ : Env) (i : Nat) : slotV ρ i = (ρ[i]?).join := rfl
theorem fn_at {T : List Fd} {gl : Nat → Option D} {n i : Nat} {xs : List Val} {f : Fd} (h : T[i]? = some f) : (ctx T gl (n + 1)).fn i xs = runF (ctx T gl n) f xs := by
  show (T[i]?.bind fun f => runF (ctx T gl n) f xs) = _
  rw [h]; rfl
theorem gl_at {T : List Fd} {gl : Nat → Option D} {n i : Nat} : (ctx T gl n).gl i = gl i := by cases n <;> rfl

/-! ### loops -/
def Ok (o : Option Out) (Q : Out → Prop) : Prop := ∃ x, o = some x ∧ Q x
/-- a for loop by what holds ahead of the items that are left -/
theorem for_inv {bind : D → Env → Option Env} {body : Env → Option Out} {Q : Out → Prop} (P : List D → Env → Prop) (step : ∀ t ts ρ, P (t :: ts) ρ → ∃ ρ1 o, bind t ρ = some ρ1 ∧ body ρ1 = some o ∧ (match o with
    | .nx ρ2 => P ts ρ2
    | .ct ρ2 => P ts ρ2
    | .bk ρ2 => Q (.nx ρ2)
    | .rt v ρ2 => Q (.rt v ρ2))) (fin : ∀ ρ, P [] ρ → Q (.nx ρ)) : ∀ (ds : List D) (ρ : Env), P ds ρ → ∃ o, forLoop bind body ds ρ = some o ∧ Q o
  | [], ρ, h => ⟨.nx ρ, rfl, fin ρ h⟩
  | t :: ts, ρ, h => by
    obtain ⟨ρ1, o, h1, h2, h3⟩ := step t ts ρ h
    unfold forLoop
    rw [h1, Option.bind_some, h2, Option.bind_some]
    cases o with
    | nx ρ2 => exact for_inv P step fin ts ρ2 h3
    | ct ρ2 => exact for_inv P step fin ts ρ2 h3
    | bk ρ2 => exact ⟨_, rfl, h3⟩
    | rt v ρ2 => exact ⟨_, rfl, h3⟩
/-- a while loop by a measure -/
theorem whl_inv {test : Env → Option (Val × Env)} {body : Env → Option Out} {Q : Out → Prop} (P : Nat → Env → Prop) (step : ∀ m ρ, P m ρ → ∃ b ρ1, test ρ = some (.d (.bool b), ρ1) ∧ (if b = true then ∃ k o, m = k + 1 ∧ body ρ1 = some o ∧ (match o with
    | .nx ρ2 => P k ρ2
    | .ct ρ2 => P k ρ2
    | .bk ρ2 => Q (.nx ρ2)
    | .rt v ρ2 => Q (.rt v ρ2)) else Q (.nx ρ1))) : ∀ (n m : Nat) (ρ : Env), m < n → P m ρ → ∃ o, whlLoop test body n ρ = some o ∧ Q o
  | 0, m, ρ, h, _ => absurd h (Nat.not_lt_zero m)
  | n + 1, m, ρ, h, p => by
    obtain ⟨b, ρ1, h1, h2⟩ := step m ρ p
    unfold whlLoop
    rw [h1, Option.bind_some]
    simp only [asB, Option.bind_some]
    cases b with
    | false => exact ⟨_, rfl, h2⟩
    | true =>
      rw [if_pos rfl] at h2 ⊢
      obtain ⟨k, o, rfl, h3, h4⟩ := h2
      rw [h3, Option.bind_some]
      cases o with
      | nx ρ2 => exact whl_inv P step n k ρ2 (by omega) h4
      | ct ρ2 => exact whl_inv P step n k ρ2 (by omega) h4
      | bk ρ2 => exact ⟨_, rfl, h4⟩
      | rt v ρ2 => exact ⟨_, rfl, h4⟩
/-- a comprehension that leaves the frame as it is: item by item -/
theorem lc_map {bind : D → Env → Option Env} {cond : Env → Option (Bool × Env)} {elt : Env → Option (Val × Env)} {own : List Nat} {ρ : Env} {g : D → D} : ∀ {ds : List D}, (∀ t ∈ ds, ∃ ρ1 ρ2 v ρ3, bind t ρ = some ρ1 ∧ cond ρ1 = some (true, ρ2) ∧ elt ρ2 = some (v, ρ3) ∧ v.dat = g t ∧ wipeE ρ3 own = ρ) →
    compLoop bind cond elt own ds ρ = some (ds.map g, ρ)
  | [], _ => rfl
  | t :: ts, h => by
    obtain ⟨ρ1, ρ2, v, ρ3, h1, h2, h3, h4, h5⟩ := h t List.mem_cons_self
    unfold compLoop
    rw [h1, Option.bind_some, h2, Option.bind_some]
    simp only [if_true]
    rw [h3, Option.bind_some]
    simp only
    rw [h5, lc_map fun u hu => h u (List.mem_cons_of_mem _ hu), h4]
    rfl
/-- .. with a test -/
theorem lc_filter {bind : D → Env → Option Env} {cond : Env → Option (Bool × Env)} {elt : Env → Option (Val × Env)} {own : List Nat} {ρ : Env} {p : D → Bool} {g : D → D} : ∀ {ds : List D}, (∀ t ∈ ds, ∃ ρ1 ρ2, bind t ρ = some ρ1 ∧ cond ρ1 = some (p t, ρ2) ∧ (p t = false → wipeE ρ2 own = ρ) ∧ (p t = true → ∃ v ρ3, elt ρ2 = some (v, ρ3) ∧ v.dat = g t ∧ wipeE ρ3 own = ρ)) →
    compLoop bind cond elt own ds ρ = some ((ds.filter p).map g, ρ)
  | [], _ => rfl
  | t :: ts, h => by
    obtain ⟨ρ1, ρ2, h1, h2, h3, h4⟩ := h t List.mem_cons_self
    have ih := lc_filter (ds := ts) fun u hu => h u (List.mem_cons_of_mem _ hu)
    unfold compLoop
    rw [h1, Option.bind_some, h2, Option.bind_some]
    cases e : p t with
    | false =>
      simp only [Bool.false_eq_true, if_false]
      rw [h3 e, ih, List.filter_cons_of_neg (by simp [e])]
    | true =>
      obtain ⟨v, ρ3, h5, h6, h7⟩ := h4 e
      simp only [if_true]
      rw [h5, Option.bind_some]
      simp only
      rw [h7, ih, h6, List.filter_cons_of_pos e]
      rfl
@[simp] theorem bools_map (ds : List D) (p : D → Bool) : bools (ds.map fun t => PyData.bool (p t)) = some (ds.map p) := by
  induction ds with
  | nil => rfl
  | cons t ts ih => simp [bools, ih]
@[simp] theorem intsOf_map {α : Type} (ds : List α) (p : α → Int) : intsOf (ds.map fun t => PyData.int (p t)) = some (ds.map p) := by
  induction ds with
  | nil => rfl
  | cons t ts ih => simp [intsOf, ih]
/-! ### parts of the evaluator by names -/
def chainQ (q : Prim) (xs ys : List Val) (ρ : Env) : Option (Val × Env) := match xs, ys with
  | [_, .d y], [z] => (prim q [.d y, z]).map fun w => (w, ρ)
  | _, _ => none
def cutQ (xs : List Val) (l h : Val) (ρ : Env) : Option (Val × Env) := match xs, l, h with
  | [x], .d (.int i), .d (.int j) => (sliceOf x.dat (some i) (some j)).map fun v => (v, ρ)
  | _, _, _ => none
def varQ (s : Option Val) (i : Nat) (ρ : Env) : Option (Val × Env) := match s with
  | some (.d t) => some (.d t, ρ)
  | some (.own xs) => some (.d (.list xs), ρ.set i (some (.d (.list xs))))
  | none => none
def rngQ (t : D) (ρ : Env) : Option (List D × Env) := match t with
  | .int j => if okR j then some (upTo 0 j.toNat, ρ) else none
  | _ => none
def rng2Q (t u : D) (ρ : Env) : Option (List D × Env) := match t, u with
  | .int i, .int j => if okR i && okR j then some (upTo i (j - i).toNat, ρ) else none
  | _, _ => none
def zipQ (t u : D) (ρ : Env) : Option (List D × Env) := match t, u with
  | .list xs, .list ys => some (pairUp xs ys, ρ)
  | .tuple xs, .tuple ys => some (pairUp xs ys, ρ)
  | _, _ => none
def enumQ (t : D) (ρ : Env) : Option (List D × Env) := match t with
  | .list xs => some (numbered 0 xs, ρ)
  | .tuple xs => some (numbered 0 xs, ρ)
  | _ => none
def ixcQ (s : Option Val) (i : Nat) (k : Int) (t : D) (ρ : Env) : Option Env := match s with
  | some (.own xs) => (ixN xs.length k).bind fun j => setS ρ i (.own (xs.set j t))
  | _ => none
theorem x_bi (i : Nat) (k : Int) (t : D) (ρ : Env) : bindT (.ixc i k) t ρ = ixcQ (slotV ρ i) i k t ρ := by
  unfold bindT slotV ixcQ
  cases h : ρ[i]? with
  | none => rfl
  | some o => cases o with
    | none => rfl
    | some v => cases v <;> rfl
theorem x_biq (xs : List D) (i : Nat) (k : Int) (t : D) (ρ : Env) : ixcQ (some (.own xs)) i k t ρ = (ixN xs.length k).bind fun j => setS ρ i (.own (xs.set j t)) := rfl
def offS (v : Val) (i : Nat) (ρ : Env) : Env := match v with
  | .own _ => ρ.set i none
  | .d _ => ρ
def setIQ (s : Option Val) (t : D) (i : Nat) (v : Val) (ρ : Env) : Option Out := match s, t with
  | some (.own xs), .int k => (ixN xs.length k).bind fun j => (setS ρ i (.own (xs.set j v.dat))).map Out.nx
  | _, _ => none
def appQ (s : Option Val) (i : Nat) (v : Val) (ρ : Env) : Option Out := match s with
  | some (.own xs) => if xs.length < szL then (setS ρ i (.own (xs ++ [v.dat]))).map Out.nx else none
  | _ => none
def nextQ (C : Ctx) (r : MSs) (o : Out) : Option Out := match o with
  | .nx ρ1 => execs C r ρ1
  | .rt v ρ1 => some (.rt v ρ1)
  | .bk ρ1 => some (.bk ρ1)
  | .ct ρ1 => some (.ct ρ1)
def endQ (n : Nat) (o : Out) : Option (Val × List Val) := match o with
  | .rt v ρ => (allSome (ρ.take n)).map fun ys => (v, ys)
  | .nx ρ => (allSome (ρ.take n)).map fun ys => (.d .none, ys)
  | _ => none
def addQ (a b : D) : Option Val := match a, b with
  | .int i, .int j => vi (i + j)
  | .tuple xs, .tuple ys => if xs.length + ys.length ≤ szL then some (.d (.tuple (xs ++ ys))) else none
  | .list xs, .list ys => if xs.length + ys.length ≤ szL then some (.own (xs ++ ys)) else none
  | .str x, .str y => if x.length + y.length ≤ szL then some (.d (.str (x ++ y))) else none
  | _, _ => none
def inQ (a : D) (s : Option (List D)) (k : Bool) : Option Val := match s with
  | some ys => if SeqAt.shaped a && ys.all SeqAt.shaped then vb (if k then (ys.any fun y => PyData.eqv y a) else !ys.any fun y => PyData.eqv y a) else none
  | none => none
def maxQ (s : Option (List D)) : Option Val := match s with
  | some xs => (intsOf xs).bind fun ns => (match ns with
    | [] => none
    | n :: r => vi (r.foldl max n))
  | none => none
def minQ (s : Option (List D)) : Option Val := match s with
  | some xs => (intsOf xs).bind fun ns => (match ns with
    | [] => none
    | n :: r => vi (r.foldl min n))
  | none => none
theorem run_f (C : Ctx) (f : Fd) (xs : List Val) (h : xs.length = f.ps.length ∧ okArgs f.asg xs = true) : runF C f xs = (execs C f.body (xs.map some ++ List.replicate (f.N.length - f.ps.length) none)).bind (endQ xs.length) := by
  unfold runF
  rw [if_pos h]
  rfl
theorem x_k (C : Ctx) (ρ : Env) (c : MK) : den C (.k c) ρ = some (.d c.dat, ρ) := rfl
theorem x_glob (C : Ctx) (ρ : Env) (i : Nat) : den C (.glob i) ρ = (C.gl i).map fun t => (.d t, ρ) := rfl
theorem x_prim (C : Ctx) (ρ : Env) (p : Prim) (as : MEs) : den C (.prim p as) ρ = (denOs C as ρ).bind fun r => (resolve r.2 r.1).bind fun xs => (prim p xs).map fun v => (v, r.2) := rfl
theorem x_not (C : Ctx) (ρ : Env) (a : ME) : den C (.not a) ρ = (den C a ρ).bind fun r => (asB r.1).map fun b => (.d (.bool (!b)), r.2) := rfl
theorem x_and (C : Ctx) (ρ : Env) (a b : ME) : den C (.and a b) ρ = (den C a ρ).bind fun r => (asB r.1).bind fun c => if c then den C b r.2 else some (.d (.bool false), r.2) := rfl
theorem x_or (C : Ctx) (ρ : Env) (a b : ME) : den C (.or a b) ρ = (den C a ρ).bind fun r => (asB r.1).bind fun c => if c then some (.d (.bool true), r.2) else den C b r.2 := rfl
theorem x_ite (C : Ctx) (ρ : Env) (c a b : ME) : den C (.ite c a b) ρ = (den C c ρ).bind fun r => (asB r.1).bind fun k => if k then den C a r.2 else den C b r.2 := rfl
theorem x_fn (C : Ctx) (ρ : Env) (f : Nat) (as : MEs) : den C (.fn f as) ρ = (denOs C as ρ).bind fun r => (takeAll r.1 r.2).bind fun t => (C.fn f t.1).bind fun w => if w.2.length = t.1.length then some (w.1, putAll r.1 t.1 w.2 t.2) else none := rfl
theorem x_fnK (C : Ctx) (ρ : Env) (f : Nat) (perm : List Nat) (as : MEs) : den C (.fnK f perm as) ρ = (denVs C as ρ).bind fun r => (pick (r.1.map fun x => Val.d x.dat) perm).bind fun xs => (C.fn f xs).bind fun w => if w.2.length = xs.length then some (w.1, r.2) else none := rfl
theorem x_lst0 (C : Ctx) (ρ : Env) : den C (.lst .nil) ρ = some (.own [], ρ) := by
  show (if (0 : Nat) ≤ szL then some (Val.own [], ρ) else none) = _
  exact if_pos (Nat.zero_le _)
theorem x_tup0 (C : Ctx) (ρ : Env) : den C (.tup .nil) ρ = some (.d (.tuple []), ρ) := by
  show (if (0 : Nat) ≤ szL then some (Val.d (.tuple []), ρ) else none) = _
  exact if_pos (Nat.zero_le _)
theorem x_tupc (C : Ctx) (ρ : Env) (e : ME) (r : MEs) : den C (.tup (.cons e r)) ρ = (denVs C (.cons e r) ρ).bind fun r => if r.1.length ≤ szL then some (.d (.tuple (r.1.map Val.dat)), r.2) else none := rfl
theorem x_lstc (C : Ctx) (ρ : Env) (e : ME) (r : MEs) : den C (.lst (.cons e r)) ρ = (denVs C (.cons e r) ρ).bind fun r => if r.1.length ≤ szL then some (.own (r.1.map Val.dat), r.2) else none := rfl
theorem x_tups (C : Ctx) (ρ : Env) (e : ME) (r : MEs) : den C (.tup (.star e r)) ρ = (denVs C (.star e r) ρ).bind fun r => if r.1.length ≤ szL then some (.d (.tuple (r.1.map Val.dat)), r.2) else none := rfl
theorem x_lsts (C : Ctx) (ρ : Env) (e : ME) (r : MEs) : den C (.lst (.star e r)) ρ = (denVs C (.star e r) ρ).bind fun r => if r.1.length ≤ szL then some (.own (r.1.map Val.dat), r.2) else none := rfl
theorem x_dic (C : Ctx) (ρ : Env) : den C .dic ρ = some (.d (.dict []), ρ) := rfl
theorem x_comp (C : Ctx) (ρ : Env) (elt : ME) (t : MT) (it : MI) (ifs : MEs) (own : List Nat) : den C (.comp elt t it ifs own) ρ = (denI C it ρ).bind fun r => if r.1.length ≤ szL then (compLoop (bindT t) (denC C ifs) (den C elt) own r.1 (wipeE r.2 own)).map fun w => (.own w.1, w.2) else none := rfl
theorem x_chain (C : Ctx) (ρ : Env) (p q : Prim) (as c : MEs) : den C (.chain p q as c) ρ = (denOs C as ρ).bind fun r => (resolve r.2 r.1).bind fun xs => (prim p xs).bind fun v => (asB v).bind fun k => if k then (denOs C c r.2).bind fun r2 => (resolve r2.2 r2.1).bind fun ys => chainQ q xs ys r2.2 else some (.d (.bool false), r.2) := rfl
theorem x_cut (C : Ctx) (ρ : Env) (as : MEs) (lo hi : ME) : den C (.cut as lo hi) ρ = (denOs C as ρ).bind fun r => (den C lo r.2).bind fun l => (den C hi l.2).bind fun h => (resolve h.2 r.1).bind fun xs => cutQ xs l.1 h.1 h.2 := rfl
theorem x_var_d (C : Ctx) (ρ : Env) (i : Nat) (t : D) (h : slotV ρ i = some (.d t)) : den C (.var i) ρ = some (.d t, ρ) := by unfold den; rw [h]
theorem x_var (C : Ctx) (ρ : Env) (i : Nat) : den C (.var i) ρ = varQ (slotV ρ i) i ρ := rfl
theorem x_var1 (t : D) (i : Nat) (ρ : Env) : varQ (some (.d t)) i ρ = some (.d t, ρ) := rfl
theorem x_var2 (xs : List D) (i : Nat) (ρ : Env) : varQ (some (.own xs)) i ρ = some (.d (.list xs), ρ.set i (some (.d (.list xs)))) := rfl
theorem x_chq (q : Prim) (x : Val) (y : D) (z : Val) (ρ : Env) : chainQ q [x, .d y] [z] ρ = (prim q [.d y, z]).map fun w => (w, ρ) := rfl
theorem x_cuq (x : Val) (i j : Int) (ρ : Env) : cutQ [x] (.d (.int i)) (.d (.int j)) ρ = (sliceOf x.dat (some i) (some j)).map fun v => (v, ρ) := rfl
theorem x_on (C : Ctx) (ρ : Env) : denOs C .nil ρ = some ([], ρ) := rfl
theorem x_ov (C : Ctx) (ρ : Env) (i : Nat) (r : MEs) : denOs C (.cons (.var i) r) ρ = (slotV ρ i).bind fun _ => (denOs C r ρ).map fun w => (.sl i :: w.1, w.2) := rfl
theorem x_o_k (C : Ctx) (ρ : Env) (c : MK) (r : MEs) : denOs C (.cons (.k c) r) ρ = (den C (.k c) ρ).bind fun v => (denOs C r v.2).map fun w => (.vl v.1 :: w.1, w.2) := rfl
theorem x_o_glob (C : Ctx) (ρ : Env) (i : Nat) (r : MEs) : denOs C (.cons (.glob i) r) ρ = (den C (.glob i) ρ).bind fun v => (denOs C r v.2).map fun w => (.vl v.1 :: w.1, w.2) := rfl
theorem x_o_prim (C : Ctx) (ρ : Env) (p : Prim) (as : MEs) (r : MEs) : denOs C (.cons (.prim p as) r) ρ = (den C (.prim p as) ρ).bind fun v => (denOs C r v.2).map fun w => (.vl v.1 :: w.1, w.2) := rfl
theorem x_o_chain (C : Ctx) (ρ : Env) (p q : Prim) (as c : MEs) (r : MEs) : denOs C (.cons (.chain p q as c) r) ρ = (den C (.chain p q as c) ρ).bind fun v => (denOs C r v.2).map fun w => (.vl v.1 :: w.1, w.2) := rfl
theorem x_o_cut (C : Ctx) (ρ : Env) (as : MEs) (lo hi : ME) (r : MEs) : denOs C (.cons (.cut as lo hi) r) ρ = (den C (.cut as lo hi) ρ).bind fun v => (denOs C r v.2).map fun w => (.vl v.1 :: w.1, w.2) := rfl
theorem x_o_not (C : Ctx) (ρ : Env) (a : ME) (r : MEs) : denOs C (.cons (.not a) r) ρ = (den C (.not a) ρ).bind fun v => (denOs C r v.2).map fun w => (.vl v.1 :: w.1, w.2) := rfl
theorem x_o_and (C : Ctx) (ρ : Env) (a b : ME) (r : MEs) : denOs C (.cons (.and a b) r) ρ = (den C (.and a b) ρ).bind fun v => (denOs C r v.2).map fun w => (.vl v.1 :: w.1, w.2) := rfl
theorem x_o_or (C : Ctx) (ρ : Env) (a b : ME) (r : MEs) : denOs C (.cons (.or a b) r) ρ = (den C (.or a b) ρ).bind fun v => (denOs C r v.2).map fun w => (.vl v.1 :: w.1, w.2) := rfl
theorem x_o_ite (C : Ctx) (ρ : Env) (c a b : ME) (r : MEs) : denOs C (.cons (.ite c a b) r) ρ = (den C (.ite c a b) ρ).bind fun v => (denOs C r v.2).map fun w => (.vl v.1 :: w.1, w.2) := rfl
theorem x_o_fn (C : Ctx) (ρ : Env) (f : Nat) (as : MEs) (r : MEs) : denOs C (.cons (.fn f as) r) ρ = (den C (.fn f as) ρ).bind fun v => (denOs C r v.2).map fun w => (.vl v.1 :: w.1, w.2) := rfl
theorem x_o_fnK (C : Ctx) (ρ : Env) (f : Nat) (perm : List Nat) (as : MEs) (r : MEs) : denOs C (.cons (.fnK f perm as) r) ρ = (den C (.fnK f perm as) ρ).bind fun v => (denOs C r v.2).map fun w => (.vl v.1 :: w.1, w.2) := rfl
theorem x_o_tup (C : Ctx) (ρ : Env) (as : MEs) (r : MEs) : denOs C (.cons (.tup as) r) ρ = (den C (.tup as) ρ).bind fun v => (denOs C r v.2).map fun w => (.vl v.1 :: w.1, w.2) := rfl
theorem x_o_lst (C : Ctx) (ρ : Env) (as : MEs) (r : MEs) : denOs C (.cons (.lst as) r) ρ = (den C (.lst as) ρ).bind fun v => (denOs C r v.2).map fun w => (.vl v.1 :: w.1, w.2) := rfl
theorem x_o_comp (C : Ctx) (ρ : Env) (elt : ME) (t : MT) (it : MI) (ifs : MEs) (own : List Nat) (r : MEs) : denOs C (.cons (.comp elt t it ifs own) r) ρ = (den C (.comp elt t it ifs own) ρ).bind fun v => (denOs C r v.2).map fun w => (.vl v.1 :: w.1, w.2) := rfl
theorem x_o_dic (C : Ctx) (ρ : Env) (r : MEs) : denOs C (.cons (.dic ) r) ρ = (den C (.dic ) ρ).bind fun v => (denOs C r v.2).map fun w => (.vl v.1 :: w.1, w.2) := rfl
theorem x_vn (C : Ctx) (ρ : Env) : denVs C .nil ρ = some ([], ρ) := rfl
theorem x_vc (C : Ctx) (ρ : Env) (e : ME) (r : MEs) : denVs C (.cons e r) ρ = (den C e ρ).bind fun v => (denVs C r v.2).map fun w => (v.1 :: w.1, w.2) := rfl
theorem x_vs (C : Ctx) (ρ : Env) (e : ME) (r : MEs) : denVs C (.star e r) ρ = (den C e ρ).bind fun v => (seqOf v.1.dat).bind fun xs => (denVs C r v.2).map fun w => (xs.map Val.d ++ w.1, w.2) := rfl
theorem x_cn (C : Ctx) (ρ : Env) : denC C .nil ρ = some (true, ρ) := rfl
theorem x_cc (C : Ctx) (ρ : Env) (e : ME) (r : MEs) : denC C (.cons e r) ρ = (den C e ρ).bind fun v => (asB v.1).bind fun b => if b then denC C r v.2 else some (false, v.2) := rfl
theorem x_iv (C : Ctx) (ρ : Env) (e : ME) : denI C (.val e) ρ = (den C e ρ).bind fun v => (seqOf v.1.dat).map fun xs => (xs, v.2) := rfl
theorem x_ir (C : Ctx) (ρ : Env) (e : ME) : denI C (.rng1 e) ρ = (den C e ρ).bind fun v => rngQ v.1.dat v.2 := rfl
theorem x_irq (j : Int) (ρ : Env) : rngQ (.int j) ρ = if okR j then some (upTo 0 j.toNat, ρ) else none := rfl
theorem x_ir2 (C : Ctx) (ρ : Env) (e f : ME) : denI C (.rng2 e f) ρ = (den C e ρ).bind fun v => (den C f v.2).bind fun w => rng2Q v.1.dat w.1.dat w.2 := rfl
theorem x_irq2 (i j : Int) (ρ : Env) : rng2Q (.int i) (.int j) ρ = if okR i && okR j then some (upTo i (j - i).toNat, ρ) else none := rfl
theorem x_iz (C : Ctx) (ρ : Env) (e f : ME) : denI C (.zip e f) ρ = (den C e ρ).bind fun v => (den C f v.2).bind fun w => zipQ v.1.dat w.1.dat w.2 := rfl
theorem x_izl (xs ys : List D) (ρ : Env) : zipQ (.list xs) (.list ys) ρ = some (pairUp xs ys, ρ) := rfl
theorem x_izt (xs ys : List D) (ρ : Env) : zipQ (.tuple xs) (.tuple ys) ρ = some (pairUp xs ys, ρ) := rfl
theorem x_ie (C : Ctx) (ρ : Env) (e : ME) : denI C (.enum e) ρ = (den C e ρ).bind fun v => enumQ v.1.dat v.2 := rfl
theorem x_iel (xs : List D) (ρ : Env) : enumQ (.list xs) ρ = some (numbered 0 xs, ρ) := rfl
theorem x_iet (xs : List D) (ρ : Env) : enumQ (.tuple xs) ρ = some (numbered 0 xs, ρ) := rfl
theorem x_rn (ρ : Env) : resolve ρ [] = some [] := rfl
theorem x_rs (ρ : Env) (i : Nat) (r : List Opv) : resolve ρ (.sl i :: r) = (slotV ρ i).bind fun v => (resolve ρ r).map (v :: ·) := rfl
theorem x_rv (ρ : Env) (v : Val) (r : List Opv) : resolve ρ (.vl v :: r) = (resolve ρ r).map (v :: ·) := rfl
theorem x_tn (ρ : Env) : takeAll [] ρ = some ([], ρ) := rfl
theorem x_ts (ρ : Env) (i : Nat) (r : List Opv) : takeAll (.sl i :: r) ρ = (slotV ρ i).bind fun v => (takeAll r (offS v i ρ)).map fun w => (v :: w.1, w.2) := rfl
theorem x_tv (ρ : Env) (v : Val) (r : List Opv) : takeAll (.vl v :: r) ρ = (takeAll r ρ).map fun w => (v :: w.1, w.2) := rfl
theorem x_off1 (t : D) (i : Nat) (ρ : Env) : offS (.d t) i ρ = ρ := rfl
theorem x_off2 (xs : List D) (i : Nat) (ρ : Env) : offS (.own xs) i ρ = ρ.set i none := rfl
theorem x_p1 (i : Nat) (r : List Opv) (us : List D) (xs : List Val) (w : Val) (ws : List Val) (ρ : Env) : putAll (.sl i :: r) (.own us :: xs) (w :: ws) ρ = (putAll r xs ws ρ).set i (some w) := rfl
theorem x_p2 (i : Nat) (r : List Opv) (t : D) (xs : List Val) (w : Val) (ws : List Val) (ρ : Env) : putAll (.sl i :: r) (.d t :: xs) (w :: ws) ρ = putAll r xs ws ρ := rfl
theorem x_p3 (v : Val) (r : List Opv) (x : Val) (xs : List Val) (w : Val) (ws : List Val) (ρ : Env) : putAll (.vl v :: r) (x :: xs) (w :: ws) ρ = putAll r xs ws ρ := rfl
theorem x_p4 (ρ : Env) : putAll [] [] [] ρ = ρ := rfl
theorem x_wn (ρ : Env) : wipeE ρ [] = ρ := rfl
theorem x_wc (ρ : Env) (v : Nat) (vs : List Nat) : wipeE ρ (v :: vs) = (wipeE ρ vs).set v none := rfl
theorem x_ab (b : Bool) : asB (.d (.bool b)) = some b := rfl
theorem x_bn (i : Nat) (t : D) (ρ : Env) : bindT (.nm i) t ρ = setS ρ i (.d t) := rfl
theorem x_bt (ts : List MT) (ds : List D) (ρ : Env) : bindT (.tp ts) (.tuple ds) ρ = bindTs ts ds ρ := rfl
theorem x_bs0 (ρ : Env) : bindTs [] [] ρ = some ρ := rfl
theorem x_bsc (t : MT) (ts : List MT) (x : D) (xs : List D) (ρ : Env) : bindTs (t :: ts) (x :: xs) ρ = (bindT t x ρ).bind fun ρ1 => bindTs ts xs ρ1 := rfl
theorem x_ss (ρ : Env) (i : Nat) (x : Val) : setS ρ i x = if i < ρ.length then some (ρ.set i (some x)) else none := rfl
theorem x_sa0 (ρ : Env) : setAll [] [] ρ = some ρ := rfl
theorem x_sac (i : Nat) (is : List Nat) (x : Val) (xs : List Val) (ρ : Env) : setAll (i :: is) (x :: xs) ρ = (setS ρ i x).bind fun ρ1 => setAll is xs ρ1 := rfl
theorem x_as0  : allSome [] = some [] := rfl
theorem x_as1 (x : Val) (r : List (Option Val)) : allSome (some x :: r) = (allSome r).map (x :: ·) := rfl
theorem x_s_asg (C : Ctx) (ρ : Env) (i : Nat) (e : ME) : exec C (.asg i e) ρ = (den C e ρ).bind fun r => (setS r.2 i r.1).map Out.nx := rfl
theorem x_s_par (C : Ctx) (ρ : Env) (is : List Nat) (as : MEs) : exec C (.par is as) ρ = (denVs C as ρ).bind fun r => (setAll is r.1 r.2).map Out.nx := rfl
theorem x_s_parT (C : Ctx) (ρ : Env) (is : List Nat) (as : MEs) : exec C (.parT is as) ρ = (denVs C as ρ).bind fun r => if r.1.length ≤ szL then (setAll is r.1 r.2).map Out.nx else none := rfl
theorem x_s_unp (C : Ctx) (ρ : Env) (t : MT) (e : ME) : exec C (.unp t e) ρ = (den C e ρ).bind fun r => (bindT t r.1.dat r.2).map Out.nx := rfl
theorem x_s_ex (C : Ctx) (ρ : Env) (e : ME) : exec C (.ex e) ρ = (den C e ρ).map fun r => .nx r.2 := rfl
theorem x_s_if (C : Ctx) (ρ : Env) (c : ME) (a b : MSs) : exec C (.ifS c a b) ρ = (den C c ρ).bind fun r => (asB r.1).bind fun k => if k then execs C a r.2 else execs C b r.2 := rfl
theorem x_s_for (C : Ctx) (ρ : Env) (t : MT) (it : MI) (b : MSs) : exec C (.forS t it b) ρ = (denI C it ρ).bind fun r => forLoop (bindT t) (execs C b) r.1 r.2 := rfl
theorem x_s_whl (C : Ctx) (ρ : Env) (c : ME) (b : MSs) : exec C (.whl c b) ρ = whlLoop (den C c) (execs C b) fuelW ρ := rfl
theorem x_s_ret (C : Ctx) (ρ : Env) (e : ME) : exec C (.ret e) ρ = (den C e ρ).map fun r => .rt r.1 r.2 := rfl
theorem x_s_rv (C : Ctx) (ρ : Env) (i : Nat) : exec C (.retV i) ρ = (slotV ρ i).map fun v => .rt v (ρ.set i none) := rfl
theorem x_s_brk (C : Ctx) (ρ : Env) : exec C .brk ρ = some (.bk ρ) := rfl
theorem x_s_cont (C : Ctx) (ρ : Env) : exec C .cont ρ = some (.ct ρ) := rfl
theorem x_s_pass (C : Ctx) (ρ : Env) : exec C .pass ρ = some (.nx ρ) := rfl
theorem x_s_setI (C : Ctx) (ρ : Env) (i : Nat) (ix e : ME) : exec C (.setI i ix e) ρ = (den C e ρ).bind fun r => (slotV r.2 i).bind fun _ => (den C ix r.2).bind fun w => setIQ (slotV w.2 i) w.1.dat i r.1 w.2 := rfl
theorem x_siq (xs : List D) (k : Int) (i : Nat) (v : Val) (ρ : Env) : setIQ (some (.own xs)) (.int k) i v ρ = (ixN xs.length k).bind fun j => (setS ρ i (.own (xs.set j v.dat))).map Out.nx := rfl
theorem x_s_app (C : Ctx) (ρ : Env) (i : Nat) (e : ME) : exec C (.app i e) ρ = (slotV ρ i).bind fun q => if isOwn q then (den C e ρ).bind fun r => appQ (slotV r.2 i) i r.1 r.2 else none := rfl
theorem x_apq (xs : List D) (i : Nat) (v : Val) (ρ : Env) : appQ (some (.own xs)) i v ρ = if xs.length < szL then (setS ρ i (.own (xs ++ [v.dat]))).map Out.nx else none := rfl
theorem x_io (xs : List D) : isOwn (.own xs) = true := rfl
theorem x_e0 (C : Ctx) (ρ : Env) : execs C .nil ρ = some (.nx ρ) := rfl
theorem x_e1 (C : Ctx) (ρ : Env) (s : MS) (r : MSs) : execs C (.cons s r) ρ = (exec C s ρ).bind fun o => nextQ C r o := rfl
theorem x_n1 (C : Ctx) (ρ : Env) (r : MSs) : nextQ C r (.nx ρ) = execs C r ρ := rfl
theorem x_n2 (C : Ctx) (ρ : Env) (r : MSs) (v : Val) : nextQ C r (.rt v ρ) = some (.rt v ρ) := rfl
theorem x_n3 (C : Ctx) (ρ : Env) (r : MSs) : nextQ C r (.bk ρ) = some (.bk ρ) := rfl
theorem x_n4 (C : Ctx) (ρ : Env) (r : MSs) : nextQ C r (.ct ρ) = some (.ct ρ) := rfl
theorem x_f1 (v : Val) (n : Nat) (ρ : Env) : endQ n (.rt v ρ) = (allSome (ρ.take n)).map fun ys => (v, ys) := rfl
theorem x_f2 (n : Nat) (ρ : Env) : endQ n (.nx ρ) = (allSome (ρ.take n)).map fun ys => (.d .none, ys) := rfl
theorem x_d1 (t : D) : (Val.d t).dat = t := rfl
theorem x_d2 (xs : List D) : (Val.own xs).dat = .list xs := rfl
theorem x_m0  : MK.non.dat = .none := rfl
theorem x_m1 (b : Bool) : (MK.bl b).dat = .bool b := rfl
theorem x_m2 (b : Int) : (MK.int b).dat = .int b := rfl
theorem x_m3 (b : Str) : (MK.str b).dat = .str b := rfl
theorem x_sq1 (xs : List D) : seqOf (.list xs) = some xs := rfl
theorem x_sq2 (xs : List D) : seqOf (.tuple xs) = some xs := rfl
theorem x_vi (i : Int) : vi i = some (.d (.int i)) := rfl
theorem x_vb (b : Bool) : vb b = some (.d (.bool b)) := rfl
theorem x_sv0 (x : Option Val) (ρ : Env) : slotV (x :: ρ) 0 = x := rfl
theorem x_svS (x : Option Val) (ρ : Env) (i : Nat) : slotV (x :: ρ) (i + 1) = slotV ρ i := rfl
theorem x_pk0 (xs : List Val) : pick xs [] = some [] := rfl
theorem x_pk1 (xs : List Val) (k : Nat) (ks : List Nat) : pick xs (k :: ks) = xs[k]?.bind fun x => (pick xs ks).map (x :: ·) := rfl
theorem x_p_add (a b : Val) : prim .add [a, b] = addQ a.dat b.dat := rfl
theorem x_ad1 (i j : Int) : addQ (.int i) (.int j) = some (.d (.int (i + j))) := rfl
theorem x_ad2 (xs ys : List D) : addQ (.tuple xs) (.tuple ys) = if xs.length + ys.length ≤ szL then some (.d (.tuple (xs ++ ys))) else none := rfl
theorem x_ad3 (xs ys : List D) : addQ (.list xs) (.list ys) = if xs.length + ys.length ≤ szL then some (.own (xs ++ ys)) else none := rfl
theorem x_ad4 (x y : Str) : addQ (.str x) (.str y) = if x.length + y.length ≤ szL then some (.d (.str (x ++ y))) else none := rfl
theorem x_p_sub (i j : Int) : prim .sub [.d (.int i), .d (.int j)] = some (.d (.int (i - j))) := rfl
theorem x_p_mul (i j : Int) : prim .mul [.d (.int i), .d (.int j)] = if mulOk i j then some (.d (.int (i * j))) else none := rfl
theorem x_p_mulT (xs : List D) (k : Int) : prim .mul [.d (.tuple xs), .d (.int k)] = if xs.length ≤ 1000 ∧ k ≤ 1000 ∧ -1000 ≤ k then some (.d (.tuple (List.replicate k.toNat xs).flatten)) else none := rfl
theorem x_p_mulL (xs : List D) (k : Int) : prim .mul [.own xs, .d (.int k)] = if xs.length ≤ 1000 ∧ k ≤ 1000 ∧ -1000 ≤ k then some (.own (List.replicate k.toNat xs).flatten) else none := rfl
theorem x_p_fdiv (i j : Int) : prim .fdiv [.d (.int i), .d (.int j)] = if divOk j then some (.d (.int (i.fdiv j))) else none := rfl
theorem x_p_mod (i j : Int) : prim .mod [.d (.int i), .d (.int j)] = if j ≠ 0 then some (.d (.int (i.fmod j))) else none := rfl
theorem x_p_pow (i j : Int) : prim .pow [.d (.int i), .d (.int j)] = if 0 ≤ j ∧ j ≤ 1000 ∧ i.natAbs < 2 ^ 64 then some (.d (.int (i ^ j.toNat))) else none := rfl
theorem x_p_neg (i : Int) : prim .neg [.d (.int i)] = some (.d (.int (-i))) := rfl
theorem x_p_eq (a b : Val) : prim .eq [a, b] = (eqD a.dat b.dat).bind vb := rfl
theorem x_p_ne (a b : Val) : prim .ne [a, b] = (eqD a.dat b.dat).bind fun c => vb (!c) := rfl
theorem x_p_lt (i j : Int) : prim .lt [.d (.int i), .d (.int j)] = some (.d (.bool (decide (i < j)))) := rfl
theorem x_p_le (i j : Int) : prim .le [.d (.int i), .d (.int j)] = some (.d (.bool (decide (i ≤ j)))) := rfl
theorem x_p_gt (i j : Int) : prim .gt [.d (.int i), .d (.int j)] = some (.d (.bool (decide (j < i)))) := rfl
theorem x_p_ge (i j : Int) : prim .ge [.d (.int i), .d (.int j)] = some (.d (.bool (decide (j ≤ i)))) := rfl
theorem x_p_isin (a b : Val) : prim .isin [a, b] = inQ a.dat (seqOf b.dat) true := rfl
theorem x_p_notin (a b : Val) : prim .notin [a, b] = inQ a.dat (seqOf b.dat) false := rfl
theorem x_p_isNone (a : Val) : prim .isNone [a] = some (.d (.bool (isNoneD a.dat))) := rfl
theorem x_p_notNone (a : Val) : prim .notNone [a] = some (.d (.bool (!isNoneD a.dat))) := rfl
theorem x_p_idxT (xs : List D) (i : Int) : prim .idx [.d (.tuple xs), .d (.int i)] = (atI xs i).map Val.d := rfl
theorem x_p_idxL (xs : List D) (i : Int) : prim .idx [.d (.list xs), .d (.int i)] = (atI xs i).map Val.d := rfl
theorem x_p_idxO (xs : List D) (i : Int) : prim .idx [.own xs, .d (.int i)] = (atI xs i).map Val.d := rfl
theorem x_p_sl0 (a : Val) : prim (.sl false false) [a] = sliceOf a.dat none none := rfl
theorem x_p_sl1 (a : Val) (i : Int) : prim (.sl true false) [a, .d (.int i)] = sliceOf a.dat (some i) none := rfl
theorem x_p_sl2 (a : Val) (i : Int) : prim (.sl false true) [a, .d (.int i)] = sliceOf a.dat none (some i) := rfl
theorem x_slL (xs : List D) (a b : Option Int) : sliceOf (.list xs) a b = some (.own (cut xs a b)) := rfl
theorem x_slT (xs : List D) (a b : Option Int) : sliceOf (.tuple xs) a b = some (.d (.tuple (cut xs a b))) := rfl
theorem x_p_revT (xs : List D) : prim .rev [.d (.tuple xs)] = some (.d (.tuple xs.reverse)) := rfl
theorem x_p_revO (xs : List D) : prim .rev [.own xs] = some (.own xs.reverse) := rfl
theorem x_p_revL (xs : List D) : prim .rev [.d (.list xs)] = some (.own xs.reverse) := rfl
theorem x_p_lenT (xs : List D) : prim .len [.d (.tuple xs)] = some (.d (.int xs.length)) := rfl
theorem x_p_lenL (xs : List D) : prim .len [.d (.list xs)] = some (.d (.int xs.length)) := rfl
theorem x_p_lenO (xs : List D) : prim .len [.own xs] = some (.d (.int xs.length)) := rfl
theorem x_p_abs (i : Int) : prim .abs [.d (.int i)] = some (.d (.int (if i < 0 then -i else i))) := rfl
theorem x_p_int (i : Int) : prim .int [.d (.int i)] = some (.d (.int i)) := rfl
theorem x_p_intb (b : Bool) : prim .int [.d (.bool b)] = some (.d (.int (if b then 1 else 0))) := rfl
theorem x_p_tuple (a : Val) : prim .tuple [a] = (seqOf a.dat).map fun xs => .d (.tuple xs) := rfl
theorem x_p_list (a : Val) : prim .list [a] = (seqOf a.dat).map Val.own := rfl
theorem x_p_all (xs : List D) : prim .all [.own xs] = (bools xs).bind fun bs => some (.d (.bool (bs.all id))) := rfl
theorem x_p_any (xs : List D) : prim .any [.own xs] = (bools xs).bind fun bs => some (.d (.bool (bs.any id))) := rfl
theorem x_p_sum (xs : List D) : prim .sum [.own xs] = (intsOf xs).bind fun ns => some (.d (.int ns.sum)) := rfl
theorem x_p_maxL (a : Val) : prim .maxL [a] = maxQ (seqOf a.dat) := rfl
theorem x_p_minL (a : Val) : prim .minL [a] = minQ (seqOf a.dat) := rfl
theorem x_p_max2 (i j : Int) : prim .max2 [.d (.int i), .d (.int j)] = some (.d (.int (if j > i then j else i))) := rfl
theorem x_p_min2 (i j : Int) : prim .min2 [.d (.int i), .d (.int j)] = some (.d (.int (if j < i then j else i))) := rfl
theorem x_p_dm (i j : Int) : prim .divmod [.d (.int i), .d (.int j)] = if 0 < j ∧ j < 1073741824 then some (.d (.tuple [.int (i / j), .int (i % j)])) else none := rfl
theorem x_p_gcd (i j : Int) : prim .gcd [.d (.int i), .d (.int j)] = some (.d (.int (Int.gcd i j))) := rfl
theorem x_p_repr (a : Val) : prim .repr [a] = if SeqAt.shaped a.dat && a.dat.showable && decide (a.dat.shown.length ≤ szL) then some (.d (.str a.dat.shown)) else none := rfl
theorem x_p_isa (ts : List String) (a : Val) : prim (.isa ts) [a] = some (.d (.bool (isA a.dat ts))) := rfl
theorem x_mapV {β : Type} (f : Val → β) (x : Val) (xs : List Val) : (x :: xs).map f = f x :: xs.map f := rfl
theorem x_mapV0 {β : Type} (f : Val → β) : ([] : List Val).map f = [] := rfl
theorem x_lenS0  : ([] : List Str).length = 0 := rfl
theorem x_lenS (x : Str) (xs : List Str) : (x :: xs).length = xs.length + 1 := rfl
theorem x_lenV0  : ([] : List Val).length = 0 := rfl
theorem x_lenE0  : ([] : Env).length = 0 := rfl
theorem x_lenV (x : Val) (xs : List Val) : (x :: xs).length = xs.length + 1 := rfl
theorem x_lenE (x : Option Val) (xs : Env) : (x :: xs).length = xs.length + 1 := rfl
theorem x_lenM (f : D → Val) (xs : List D) : (xs.map f).length = xs.length := List.length_map f
theorem x_lenW (f : Val → D) (xs : List Val) : (xs.map f).length = xs.length := List.length_map f
theorem x_rngN (k : Nat) (ρ : Env) (h : k ≤ 1000) : rngQ (.int k) ρ = some (Eng.upTo 0 k, ρ) := by
  rw [x_irq]
  have ok : okR (k : Int) = true := by
    unfold okR
    exact decide_eq_true (by omega)
  rw [if_pos ok, Int.toNat_natCast]
end Eng
local macro_rules
  | `(tactic| simp_arith only [$ls,*]) => `(tactic| simp only [Eng.x_k, Eng.x_glob, Eng.x_prim, Eng.x_not, Eng.x_and, Eng.x_or, Eng.x_ite, Eng.x_fn, Eng.x_fnK, Eng.x_lst0, Eng.x_tup0, Eng.x_tupc, Eng.x_lstc, Eng.x_tups, Eng.x_lsts, Eng.x_dic, Eng.x_comp, Eng.x_chain, Eng.x_cut, Eng.x_var, Eng.x_var1, Eng.x_var2, Eng.x_chq, Eng.x_cuq, Eng.x_on, Eng.x_ov, Eng.x_o_k, Eng.x_o_glob, Eng.x_o_prim, Eng.x_o_chain, Eng.x_o_cut, Eng.x_o_not, Eng.x_o_and, Eng.x_o_or, Eng.x_o_ite, Eng.x_o_fn, Eng.x_o_fnK, Eng.x_o_tup, Eng.x_o_lst, Eng.x_o_comp, Eng.x_o_dic, Eng.x_vn, Eng.x_vc, Eng.x_vs, Eng.x_cn, Eng.x_cc, Eng.x_iv, Eng.x_ir, Eng.x_ir2, Eng.x_iz, Eng.x_izl, Eng.x_izt, Eng.x_ie, Eng.x_iel, Eng.x_iet, Eng.x_rn, Eng.x_rs, Eng.x_rv, Eng.x_tn, Eng.x_ts, Eng.x_tv, Eng.x_off1, Eng.x_off2, Eng.x_p1, Eng.x_p2, Eng.x_p3, Eng.x_p4, Eng.x_wn, Eng.x_wc, Eng.x_ab, Eng.x_bn, Eng.x_bt, Eng.x_bi, Eng.x_biq, Eng.x_bs0, Eng.x_bsc, Eng.x_ss, Eng.x_sa0, Eng.x_sac, Eng.x_as0, Eng.x_as1, Eng.x_s_asg, Eng.x_s_par, Eng.x_s_parT, Eng.x_s_unp, Eng.x_s_ex, Eng.x_s_if, Eng.x_s_for, Eng.x_s_whl, Eng.x_s_ret, Eng.x_s_rv, Eng.x_s_brk, Eng.x_s_cont, Eng.x_s_pass, Eng.x_s_setI, Eng.x_siq, Eng.x_s_app, Eng.x_apq, Eng.x_io, Eng.x_e0, Eng.x_e1, Eng.x_n1, Eng.x_n2, Eng.x_n3, Eng.x_n4, Eng.x_f1, Eng.x_f2, Eng.x_d1, Eng.x_d2, Eng.x_m0, Eng.x_m1, Eng.x_m2, Eng.x_m3, Eng.x_sq1, Eng.x_sq2, Eng.x_vi, Eng.x_vb, Eng.x_sv0, Eng.x_svS, Eng.x_pk0, Eng.x_pk1, Eng.x_p_add, Eng.x_ad1, Eng.x_ad2, Eng.x_ad3, Eng.x_ad4, Eng.x_p_sub, Eng.x_p_mul, Eng.x_p_mulT, Eng.x_p_mulL, Eng.x_p_fdiv, Eng.x_p_mod, Eng.x_p_pow, Eng.x_p_neg, Eng.x_p_eq, Eng.x_p_ne, Eng.x_p_lt, Eng.x_p_le, Eng.x_p_gt, Eng.x_p_ge, Eng.x_p_isin, Eng.x_p_notin, Eng.x_p_isNone, Eng.x_p_notNone, Eng.x_p_idxT, Eng.x_p_idxL, Eng.x_p_idxO, Eng.x_p_sl0, Eng.x_p_sl1, Eng.x_p_sl2, Eng.x_slL, Eng.x_slT, Eng.x_p_revT, Eng.x_p_revO, Eng.x_p_revL, Eng.x_p_lenT, Eng.x_p_lenL, Eng.x_p_lenO, Eng.x_p_abs, Eng.x_p_int, Eng.x_p_intb, Eng.x_p_tuple, Eng.x_p_list, Eng.x_p_all, Eng.x_p_any, Eng.x_p_sum, Eng.x_p_maxL, Eng.x_p_minL, Eng.x_p_max2, Eng.x_p_min2, Eng.x_p_dm, Eng.x_p_gcd, Eng.x_p_repr, Eng.x_p_isa, Eng.x_mapV, Eng.x_mapV0, Eng.x_lenS0, Eng.x_lenS, Eng.x_lenV0, Eng.x_lenE0, Eng.x_lenV, Eng.x_lenE, Eng.x_lenM, Option.bind_some, Option.map_some, Option.bind_none, Option.map_none, List.cons_append, List.nil_append, List.append_nil, List.set_cons_zero, List.set_cons_succ, List.take_succ_cons, List.take_zero, if_true, if_false, Bool.false_eq_true, List.getElem?_cons_zero, List.getElem?_cons_succ, Nat.reduceAdd, Nat.reduceLT, Nat.reduceLeDiff, Nat.reduceSub, reduceIte, Bool.not_true, Bool.not_false, Nat.reduceEqDiff, reduceCtorEq, Nat.zero_lt_succ, Nat.succ_lt_succ_iff, List.replicate_zero, List.replicate_succ, Bool.true_eq_false, ite_true, ite_false, decide_true, decide_false, Eng.gl_at, $ls,*])
  | `(tactic| simp_arith (decide := true) only [$ls,*] at $h ⊢) => `(tactic| simp (decide := true) only [Eng.x_k, Eng.x_glob, Eng.x_prim, Eng.x_not, Eng.x_and, Eng.x_or, Eng.x_ite, Eng.x_fn, Eng.x_fnK, Eng.x_lst0, Eng.x_tup0, Eng.x_tupc, Eng.x_lstc, Eng.x_tups, Eng.x_lsts, Eng.x_dic, Eng.x_comp, Eng.x_chain, Eng.x_cut, Eng.x_var, Eng.x_var1, Eng.x_var2, Eng.x_chq, Eng.x_cuq, Eng.x_on, Eng.x_ov, Eng.x_o_k, Eng.x_o_glob, Eng.x_o_prim, Eng.x_o_chain, Eng.x_o_cut, Eng.x_o_not, Eng.x_o_and, Eng.x_o_or, Eng.x_o_ite, Eng.x_o_fn, Eng.x_o_fnK, Eng.x_o_tup, Eng.x_o_lst, Eng.x_o_comp, Eng.x_o_dic, Eng.x_vn, Eng.x_vc, Eng.x_vs, Eng.x_cn, Eng.x_cc, Eng.x_iv, Eng.x_ir, Eng.x_ir2, Eng.x_iz, Eng.x_izl, Eng.x_izt, Eng.x_ie, Eng.x_iel, Eng.x_iet, Eng.x_rn, Eng.x_rs, Eng.x_rv, Eng.x_tn, Eng.x_ts, Eng.x_tv, Eng.x_off1, Eng.x_off2, Eng.x_p1, Eng.x_p2, Eng.x_p3, Eng.x_p4, Eng.x_wn, Eng.x_wc, Eng.x_ab, Eng.x_bn, Eng.x_bt, Eng.x_bi, Eng.x_biq, Eng.x_bs0, Eng.x_bsc, Eng.x_ss, Eng.x_sa0, Eng.x_sac, Eng.x_as0, Eng.x_as1, Eng.x_s_asg, Eng.x_s_par, Eng.x_s_parT, Eng.x_s_unp, Eng.x_s_ex, Eng.x_s_if, Eng.x_s_for, Eng.x_s_whl, Eng.x_s_ret, Eng.x_s_rv, Eng.x_s_brk, Eng.x_s_cont, Eng.x_s_pass, Eng.x_s_setI, Eng.x_siq, Eng.x_s_app, Eng.x_apq, Eng.x_io, Eng.x_e0, Eng.x_e1, Eng.x_n1, Eng.x_n2, Eng.x_n3, Eng.x_n4, Eng.x_f1, Eng.x_f2, Eng.x_d1, Eng.x_d2, Eng.x_m0, Eng.x_m1, Eng.x_m2, Eng.x_m3, Eng.x_sq1, Eng.x_sq2, Eng.x_vi, Eng.x_vb, Eng.x_sv0, Eng.x_svS, Eng.x_pk0, Eng.x_pk1, Eng.x_p_add, Eng.x_ad1, Eng.x_ad2, Eng.x_ad3, Eng.x_ad4, Eng.x_p_sub, Eng.x_p_mul, Eng.x_p_mulT, Eng.x_p_mulL, Eng.x_p_fdiv, Eng.x_p_mod, Eng.x_p_pow, Eng.x_p_neg, Eng.x_p_eq, Eng.x_p_ne, Eng.x_p_lt, Eng.x_p_le, Eng.x_p_gt, Eng.x_p_ge, Eng.x_p_isin, Eng.x_p_notin, Eng.x_p_isNone, Eng.x_p_notNone, Eng.x_p_idxT, Eng.x_p_idxL, Eng.x_p_idxO, Eng.x_p_sl0, Eng.x_p_sl1, Eng.x_p_sl2, Eng.x_slL, Eng.x_slT, Eng.x_p_revT, Eng.x_p_revO, Eng.x_p_revL, Eng.x_p_lenT, Eng.x_p_lenL, Eng.x_p_lenO, Eng.x_p_abs, Eng.x_p_int, Eng.x_p_intb, Eng.x_p_tuple, Eng.x_p_list, Eng.x_p_all, Eng.x_p_any, Eng.x_p_sum, Eng.x_p_maxL, Eng.x_p_minL, Eng.x_p_max2, Eng.x_p_min2, Eng.x_p_dm, Eng.x_p_gcd, Eng.x_p_repr, Eng.x_p_isa, Eng.x_mapV, Eng.x_mapV0, Eng.x_lenS0, Eng.x_lenS, Eng.x_lenV0, Eng.x_lenE0, Eng.x_lenV, Eng.x_lenE, Eng.x_lenM, Option.bind_some, Option.map_some, Option.bind_none, Option.map_none, List.cons_append, List.nil_append, List.append_nil, List.set_cons_zero, List.set_cons_succ, List.take_succ_cons, List.take_zero, if_true, if_false, Bool.false_eq_true, List.getElem?_cons_zero, List.getElem?_cons_succ, Nat.reduceAdd, Nat.reduceLT, Nat.reduceLeDiff, Nat.reduceSub, reduceIte, Bool.not_true, Bool.not_false, Nat.reduceEqDiff, reduceCtorEq, Nat.zero_lt_succ, Nat.succ_lt_succ_iff, List.replicate_zero, List.replicate_succ, Bool.true_eq_false, ite_true, ite_false, decide_true, decide_false, Eng.gl_at, $ls,*] at $h ⊢)
  | `(tactic| simp_arith (decide := true) only [$ls,*]) => `(tactic| simp (decide := true) only [Eng.x_k, Eng.x_glob, Eng.x_prim, Eng.x_not, Eng.x_and, Eng.x_or, Eng.x_ite, Eng.x_fn, Eng.x_fnK, Eng.x_lst0, Eng.x_tup0, Eng.x_tupc, Eng.x_lstc, Eng.x_tups, Eng.x_lsts, Eng.x_dic, Eng.x_comp, Eng.x_chain, Eng.x_cut, Eng.x_var, Eng.x_var1, Eng.x_var2, Eng.x_chq, Eng.x_cuq, Eng.x_on, Eng.x_ov, Eng.x_o_k, Eng.x_o_glob, Eng.x_o_prim, Eng.x_o_chain, Eng.x_o_cut, Eng.x_o_not, Eng.x_o_and, Eng.x_o_or, Eng.x_o_ite, Eng.x_o_fn, Eng.x_o_fnK, Eng.x_o_tup, Eng.x_o_lst, Eng.x_o_comp, Eng.x_o_dic, Eng.x_vn, Eng.x_vc, Eng.x_vs, Eng.x_cn, Eng.x_cc, Eng.x_iv, Eng.x_ir, Eng.x_ir2, Eng.x_iz, Eng.x_izl, Eng.x_izt, Eng.x_ie, Eng.x_iel, Eng.x_iet, Eng.x_rn, Eng.x_rs, Eng.x_rv, Eng.x_tn, Eng.x_ts, Eng.x_tv, Eng.x_off1, Eng.x_off2, Eng.x_p1, Eng.x_p2, Eng.x_p3, Eng.x_p4, Eng.x_wn, Eng.x_wc, Eng.x_ab, Eng.x_bn, Eng.x_bt, Eng.x_bi, Eng.x_biq, Eng.x_bs0, Eng.x_bsc, Eng.x_ss, Eng.x_sa0, Eng.x_sac, Eng.x_as0, Eng.x_as1, Eng.x_s_asg, Eng.x_s_par, Eng.x_s_parT, Eng.x_s_unp, Eng.x_s_ex, Eng.x_s_if, Eng.x_s_for, Eng.x_s_whl, Eng.x_s_ret, Eng.x_s_rv, Eng.x_s_brk, Eng.x_s_cont, Eng.x_s_pass, Eng.x_s_setI, Eng.x_siq, Eng.x_s_app, Eng.x_apq, Eng.x_io, Eng.x_e0, Eng.x_e1, Eng.x_n1, Eng.x_n2, Eng.x_n3, Eng.x_n4, Eng.x_f1, Eng.x_f2, Eng.x_d1, Eng.x_d2, Eng.x_m0, Eng.x_m1, Eng.x_m2, Eng.x_m3, Eng.x_sq1, Eng.x_sq2, Eng.x_vi, Eng.x_vb, Eng.x_sv0, Eng.x_svS, Eng.x_pk0, Eng.x_pk1, Eng.x_p_add, Eng.x_ad1, Eng.x_ad2, Eng.x_ad3, Eng.x_ad4, Eng.x_p_sub, Eng.x_p_mul, Eng.x_p_mulT, Eng.x_p_mulL, Eng.x_p_fdiv, Eng.x_p_mod, Eng.x_p_pow, Eng.x_p_neg, Eng.x_p_eq, Eng.x_p_ne, Eng.x_p_lt, Eng.x_p_le, Eng.x_p_gt, Eng.x_p_ge, Eng.x_p_isin, Eng.x_p_notin, Eng.x_p_isNone, Eng.x_p_notNone, Eng.x_p_idxT, Eng.x_p_idxL, Eng.x_p_idxO, Eng.x_p_sl0, Eng.x_p_sl1, Eng.x_p_sl2, Eng.x_slL, Eng.x_slT, Eng.x_p_revT, Eng.x_p_revO, Eng.x_p_revL, Eng.x_p_lenT, Eng.x_p_lenL, Eng.x_p_lenO, Eng.x_p_abs, Eng.x_p_int, Eng.x_p_intb, Eng.x_p_tuple, Eng.x_p_list, Eng.x_p_all, Eng.x_p_any, Eng.x_p_sum, Eng.x_p_maxL, Eng.x_p_minL, Eng.x_p_max2, Eng.x_p_min2, Eng.x_p_dm, Eng.x_p_gcd, Eng.x_p_repr, Eng.x_p_isa, Eng.x_mapV, Eng.x_mapV0, Eng.x_lenS0, Eng.x_lenS, Eng.x_lenV0, Eng.x_lenE0, Eng.x_lenV, Eng.x_lenE, Eng.x_lenM, Option.bind_some, Option.map_some, Option.bind_none, Option.map_none, List.cons_append, List.nil_append, List.append_nil, List.set_cons_zero, List.set_cons_succ, List.take_succ_cons, List.take_zero, if_true, if_false, Bool.false_eq_true, List.getElem?_cons_zero, List.getElem?_cons_succ, Nat.reduceAdd, Nat.reduceLT, Nat.reduceLeDiff, Nat.reduceSub, reduceIte, Bool.not_true, Bool.not_false, Nat.reduceEqDiff, reduceCtorEq, Nat.zero_lt_succ, Nat.succ_lt_succ_iff, List.replicate_zero, List.replicate_succ, Bool.true_eq_false, ite_true, ite_false, decide_true, decide_false, Eng.gl_at, $ls,*])
set_option Elab.async false
set_option linter.all false
set_option maxRecDepth 100000
set_option maxHeartbeats 1000000
/-! Eng22: data: whole numbers, ratios, rows, trials; bounds; the well. -/
namespace Eng
open PySem PySem.Spec L2
def isWhole : D → Bool
  | .int _ => true
  | _ => false
def isBetween (a : D) (lo hi : Int) : Bool := match a with
  | .int i => decide (lo ≤ i) && decide (i ≤ hi)
  | _ => false
def tupOf (a : D) (m : Int) : Bool := match a with
  | .tuple xs => decide ((xs.length : Int) = m)
  | _ => false
theorem eqI (i j : Int) : eqD (.int i) (.int j) = some (decide (i = j)) := by
  unfold eqD
  have e : ∀ k : Int, SeqAt.shaped (.int k) = true := fun k => rfl
  rw [e, e]
  rfl
def isRatio : D → Bool
  | .tuple [.int p, .int q] => decide (0 < q) && decide (Int.gcd p q = 1)
  | _ => false
theorem tup2 {a : D} (h : tupOf a 2 = true) : ∃ x y, a = .tuple [x, y] := by
  cases a with
  | tuple xs =>
    simp only [tupOf, decide_eq_true_eq] at h
    match xs, h with
    | [x, y], _ => exact ⟨x, y, rfl⟩
    | [], h => simp at h
    | [_], h => simp at h
    | _ :: _ :: _ :: _, h => simp at h; omega
  | _ => simp [tupOf] at h
theorem whole_int {a : D} (h : isWhole a = true) : ∃ i, a = .int i := by
  cases a <;> first | exact ⟨_, rfl⟩ | simp [isWhole] at h
theorem at0 (x y : D) : atI [x, y] 0 = some x := rfl
theorem at1 (x y : D) : atI [x, y] 1 = some y := rfl
def isRow (a : D) (m : Int) : Bool := match a with
  | .tuple xs => decide ((xs.length : Int) = m) && xs.all isRatio
  | _ => false
def short (a : D) : Prop := ∀ xs, a = .tuple xs → xs.length ≤ szL
theorem eqT0 (xs : List D) : eqD (.tuple xs) (.tuple []) = some xs.isEmpty := by
  unfold eqD
  split
  · cases xs <;> simp [PyData.eqv, PyData.eqvAll]
  · cases xs <;> rfl
def areBlocks (a : D) (m : Int) : Bool := match a with
  | .tuple xs => xs.isEmpty || (decide ((xs.length : Int) = m) && xs.all fun t => isBetween t 0 4)
  | _ => false
/-! ### data of a bounded size -/
mutual
def gd (L B : Nat) : D → Bool
  | .int i => decide (i.natAbs < B)
  | .tuple xs => decide (xs.length ≤ L) && gds L B xs
  | .list xs => decide (xs.length ≤ L) && gds L B xs
  | .none => true
  | .bool _ => true
  | .str _ => true
  | .dict _ => true
def gds (L B : Nat) : List D → Bool
  | [] => true
  | t :: ts => gd L B t && gds L B ts
end
abbrev good (B : Nat) : D → Bool := gd 1000 B
theorem gds_iff {L B : Nat} : ∀ {xs : List D}, gds L B xs = true ↔ ∀ t ∈ xs, gd L B t = true
  | [] => by simp [gds]
  | x :: xs => by simp [gds, gds_iff (xs := xs)]
theorem gd_tup {L B : Nat} {xs : List D} : gd L B (.tuple xs) = true ↔ xs.length ≤ L ∧ ∀ t ∈ xs, gd L B t = true := by
  simp [gd, gds_iff]
theorem gd_lst {L B : Nat} {xs : List D} : gd L B (.list xs) = true ↔ xs.length ≤ L ∧ ∀ t ∈ xs, gd L B t = true := by
  simp [gd, gds_iff]
theorem gd_int {L B : Nat} {i : Int} : gd L B (.int i) = true ↔ i.natAbs < B := by simp [gd]
mutual
theorem gd_mono {L B L' B' : Nat} (hL : L ≤ L') (hB : B ≤ B') : ∀ {t : D}, gd L B t = true → gd L' B' t = true
  | .int i, h => by rw [gd_int] at h ⊢; omega
  | .tuple xs, h => by rw [gd, Bool.and_eq_true, decide_eq_true_eq] at h ⊢; exact ⟨by omega, gds_mono hL hB h.2⟩
  | .list xs, h => by rw [gd, Bool.and_eq_true, decide_eq_true_eq] at h ⊢; exact ⟨by omega, gds_mono hL hB h.2⟩
  | .none, _ => rfl
  | .bool _, _ => rfl
  | .str _, _ => rfl
  | .dict _, _ => rfl
theorem gds_mono {L B L' B' : Nat} (hL : L ≤ L') (hB : B ≤ B') : ∀ {ts : List D}, gds L B ts = true → gds L' B' ts = true
  | [], _ => rfl
  | t :: ts, h => by rw [gds, Bool.and_eq_true] at h ⊢; exact ⟨gd_mono hL hB h.1, gds_mono hL hB h.2⟩
end
theorem good_tup {B : Nat} {xs : List D} : good B (.tuple xs) = true ↔ xs.length ≤ 1000 ∧ ∀ t ∈ xs, good B t = true := gd_tup
theorem good_lst {B : Nat} {xs : List D} : good B (.list xs) = true ↔ xs.length ≤ 1000 ∧ ∀ t ∈ xs, good B t = true := gd_lst
theorem good_int {B : Nat} {i : Int} : good B (.int i) = true ↔ i.natAbs < B := gd_int
theorem sz1000 {n : Nat} (h : n ≤ 1000) : n ≤ szL := Nat.le_trans h (by decide)
theorem good_short {B : Nat} {a : D} (h : good B a = true) : short a := fun xs e => by
  subst e
  exact sz1000 (good_tup.mp h).1
theorem atI0 (x : D) (xs : List D) : atI (x :: xs) 0 = some x := by
  unfold atI
  simp [ixN]
def isTup : D → Bool
  | .tuple _ => true
  | _ => false
theorem isA_tup (a : D) : isA a ["tuple"] = isTup a := by cases a <;> rfl
theorem of_isTup {a : D} (h : isTup a = true) : ∃ xs, a = .tuple xs := by cases a <;> first | exact ⟨_, rfl⟩ | cases h
def arePlots : D → Bool
  | .tuple rows => decide ((1 : Int) ≤ rows.length) && (decide ((rows.length : Int) ≤ 10) && (match rows with
    | .tuple r0 :: _ => decide ((1 : Int) ≤ r0.length) && (decide ((r0.length : Int) ≤ 5) && rows.all fun r => isRow r r0.length)
    | _ => false))
  | _ => false
def lenD : D → Int
  | .tuple xs => xs.length
  | _ => 0
def posR : D → Bool
  | .tuple (.int p :: _) => decide (0 < p)
  | _ => false
def posAll : D → Bool
  | .tuple xs => xs.all posR
  | _ => false
def isTrial : D → Bool
  | .tuple [p, s, b] => arePlots p && (isRow s (lenD p) && (posAll s && areBlocks b (lenD p)))
  | _ => false
theorem tup3 {a : D} (h : tupOf a 3 = true) : ∃ x y z, a = .tuple [x, y, z] := by
  cases a with
  | tuple xs =>
    simp only [tupOf, decide_eq_true_eq] at h
    match xs, h with
    | [x, y, z], _ => exact ⟨x, y, z, rfl⟩
    | [], h => simp at h
    | [_], h => simp at h
    | [_, _], h => simp at h
    | _ :: _ :: _ :: _ :: _, h => simp at h; omega
  | _ => simp [tupOf] at h
theorem plots_tup {a : D} (h : arePlots a = true) : ∃ r0 rs, a = .tuple (.tuple r0 :: rs) ∧ 1 ≤ (r0.length : Int) ∧ (r0.length : Int) ≤ 5 ∧ ((PyData.tuple r0 :: rs).length : Int) ≤ 10 ∧ ∀ r ∈ PyData.tuple r0 :: rs, isRow r r0.length = true := by
  cases a with
  | tuple rows =>
    simp only [arePlots, Bool.and_eq_true, decide_eq_true_eq] at h
    obtain ⟨h1, h2, h3⟩ := h
    split at h3
    · rename_i r0 rs
      simp only [Bool.and_eq_true, decide_eq_true_eq, List.all_eq_true] at h3
      exact ⟨r0, rs, rfl, h3.1, h3.2.1, h2, h3.2.2⟩
    · cases h3
  | _ => simp [arePlots] at h
theorem row_tup {a : D} {m : Int} (h : isRow a m = true) : ∃ xs, a = .tuple xs ∧ (xs.length : Int) = m ∧ ∀ t ∈ xs, isRatio t = true := by
  cases a with
  | tuple xs =>
    simp only [isRow, Bool.and_eq_true, decide_eq_true_eq, List.all_eq_true] at h
    exact ⟨xs, rfl, h.1, h.2⟩
  | _ => simp [isRow] at h
theorem ratio_tup {a : D} (h : isRatio a = true) : ∃ p q : Int, a = .tuple [.int p, .int q] ∧ 0 < q ∧ Int.gcd p q = 1 := by
  unfold isRatio at h
  split at h
  · simp only [Bool.and_eq_true, decide_eq_true_eq] at h
    exact ⟨_, _, rfl, h.1, h.2⟩
  · cases h
theorem a30 (x y z : D) : atI [x, y, z] 0 = some x := rfl
theorem a31 (x y z : D) : atI [x, y, z] 1 = some y := rfl
theorem a32 (x y z : D) : atI [x, y, z] 2 = some z := rfl
theorem trial_parts {a : D} (h : isTrial a = true) : ∃ r0 rs sp bl, a = .tuple [.tuple (.tuple r0 :: rs), .tuple sp, .tuple bl] ∧ 1 ≤ (r0.length : Int) ∧ (r0.length : Int) ≤ 5 ∧ (∀ r ∈ PyData.tuple r0 :: rs, isRow r r0.length = true) ∧ ((PyData.tuple r0 :: rs).length : Int) ≤ 10 ∧
    (sp.length : Int) = (PyData.tuple r0 :: rs).length ∧ (bl = [] ∨ ((bl.length : Int) = (PyData.tuple r0 :: rs).length ∧ ∀ t ∈ bl, isBetween t 0 4 = true)) := by
  unfold isTrial at h
  split at h
  · rename_i p s b
    simp only [Bool.and_eq_true] at h
    obtain ⟨h1, h2, h3, h4⟩ := h
    obtain ⟨r0, rs, rfl, k1, k2, k3, k4⟩ := plots_tup h1
    obtain ⟨xs, rfl, k5, k6⟩ := row_tup h2
    cases b with
    | tuple bl =>
      refine ⟨r0, rs, xs, bl, rfl, k1, k2, k4, k3, k5, ?_⟩
      simp only [areBlocks, Bool.or_eq_true, Bool.and_eq_true, decide_eq_true_eq, List.all_eq_true, List.isEmpty_iff] at h4
      exact h4
    | _ => simp [areBlocks] at h4
  · cases h
def manyD : D → Int
  | .tuple [.tuple (.tuple r0 :: _), _, _] => r0.length
  | _ => 0
def levD : D → Int
  | .tuple [_, _, .tuple bl] => (match intsOf bl with
    | some (n :: r) => r.foldl max n + 1
    | _ => 0)
  | _ => 0
theorem ints_of : ∀ {bl : List D}, (∀ t ∈ bl, isBetween t 0 4 = true) → ∃ ns, intsOf bl = some ns ∧ bl = ns.map PyData.int ∧ ∀ i ∈ ns, 0 ≤ i ∧ i ≤ 4
  | [], _ => ⟨[], rfl, rfl, fun _ h => by simp at h⟩
  | t :: ts, h => by
    obtain ⟨ns, h1, h2, h3⟩ := ints_of (bl := ts) fun u hu => h u (List.mem_cons_of_mem _ hu)
    have ht := h t List.mem_cons_self
    cases t with
    | int i =>
      simp only [isBetween, Bool.and_eq_true, decide_eq_true_eq] at ht
      refine ⟨i :: ns, by simp [intsOf, h1], by simp [h2], fun j hj => ?_⟩
      rcases List.mem_cons.mp hj with rfl | hj
      · exact ht
      · exact h3 j hj
    | _ => simp [isBetween] at ht
def isWorld (t v : D) : Bool := match v with
  | .tuple [x, y] => isRow x (manyD t) && isRow y (levD t)
  | _ => false
theorem fmod_nat (a b : Nat) : Int.fmod (a : Int) (b : Int) = ((a % b : Nat) : Int) := by
  rw [Int.fmod_eq_emod_of_nonneg _ (Int.natCast_nonneg b)]
  rfl
theorem eqP (a b c d : Int) : eqD (.tuple [.int a, .int b]) (.tuple [.int c, .int d]) = some (decide (a = c) && decide (b = d)) := by
  unfold eqD
  have e : ∀ x y : Int, SeqAt.shaped (.tuple [.int x, .int y]) = true := fun x y => rfl
  rw [e, e]
  show some ((a == c) && ((b == d) && true)) = _
  rw [Bool.and_true]
  rfl
theorem lean_one {p q : Int} (hq : 0 < q) : (decide (p.fdiv (Int.gcd p q : Nat) = p) && decide (q.fdiv (Int.gcd p q : Nat) = q)) = decide (Int.gcd p q = 1) := by
  have hg : 0 < Int.gcd p q := Nat.pos_of_ne_zero fun e => by
    have := Int.gcd_eq_zero_iff.mp e
    omega
  by_cases h : Int.gcd p q = 1
  · rw [h]
    simp [Int.fdiv_one]
  · have hd : (Int.gcd p q : Int) ∣ q := Int.gcd_dvd_right ..
    have : ¬ q.fdiv (Int.gcd p q : Nat) = q := fun e => by
      rw [Int.fdiv_eq_ediv_of_nonneg _ (by omega)] at e
      have h2 := Int.ediv_mul_cancel hd
      rw [e] at h2
      have h3 : (2 : Int) ≤ (Int.gcd p q : Int) := by omega
      have h4 : q * 2 ≤ q * (Int.gcd p q : Int) := Int.mul_le_mul_of_nonneg_left h3 (by omega)
      omega
    simp [this, h]
theorem any_not (xs : List D) (p : D → Bool) : (xs.map fun t => !p t).any id = !xs.all p := by
  induction xs with
  | nil => rfl
  | cons x xs ih =>
    simp only [List.map_cons, List.any_cons, ih, List.all_cons, id]
    cases p x <;> rfl
theorem le_not (p : Int) : decide (p ≤ 0) = !decide (0 < p) := by
  by_cases h : 0 < p
  · rw [decide_eq_true h, decide_eq_false (by omega)]; rfl
  · rw [decide_eq_false h, decide_eq_true (by omega)]; rfl
def W (N : Nat) (xs : List D) : Prop := ∃ b m c : Int, xs = [.int b, .int m, .int c] ∧ 0 ≤ b ∧ 0 ≤ m ∧ m < 2147483489 ∧ 0 ≤ c ∧ c ≤ N
theorem W.mono {N M : Nat} {xs : List D} (w : W N xs) (h : N ≤ M) : W M xs := by
  obtain ⟨b, m, c, e, h1, h2, h3, h4, h5⟩ := w
  exact ⟨b, m, c, e, h1, h2, h3, h4, by omega⟩
theorem mulOk_small {i j : Int} (hi : i.natAbs < 2 ^ 10000) (hj : j.natAbs < 2 ^ 10000) : mulOk i j = true := by
  unfold mulOk
  refine decide_eq_true ?_
  have lg : ∀ n : Nat, n < 2 ^ 10000 → n.log2 < 10000 := fun n h => by
    by_cases z : n = 0
    · subst z; decide
    · exact (Nat.log2_lt z).mpr h
  have h1 := lg _ hi
  have h2 := lg _ hj
  omega
theorem big32 {n : Nat} (h : n < 1000000000000000000) : n < 2 ^ 10000 := Nat.lt_of_lt_of_le h (by
  have : (1000000000000000000 : Nat) ≤ 2 ^ 60 := by decide
  exact Nat.le_trans this (Nat.pow_le_pow_right (by decide) (by decide)))
theorem mulOk_nat {i j : Int} (hi : 0 ≤ i) (hi2 : i < 1000000000000000000) (hj : 0 ≤ j) (hj2 : j < 1000000000000000000) : mulOk i j = true :=
  mulOk_small (big32 (by omega)) (big32 (by omega))
theorem fmod_pos (a : Int) {b : Int} (h : 0 < b) : Int.fmod a b = a % b := Int.fmod_eq_emod_of_nonneg a (by omega)
theorem l3 (x y z : D) : ixN ([x, y, z] : List D).length 0 = some 0 ∧ ixN ([x, y, z] : List D).length 1 = some 1 ∧ ixN ([x, y, z] : List D).length 2 = some 2 := ⟨rfl, rfl, rfl⟩
theorem atI_some {xs : List D} {d : Int} (h0 : 0 ≤ d) (h1 : d < xs.length) : ∃ t, atI xs d = some t ∧ t ∈ xs := by
  unfold atI ixN
  rw [if_pos h0, if_pos h1]
  have hl : d.toNat < xs.length := by omega
  exact ⟨xs[d.toNat], by simp [hl], List.getElem_mem hl⟩
theorem upTo_len (lo : Int) (n : Nat) : (Eng.upTo lo n).length = n := by simp [Eng.upTo]
end Eng
set_option Elab.async false
set_option linter.all false
set_option maxRecDepth 100000
set_option maxHeartbeats 1000000
/-! Eng23: ratios as rational numbers. -/
namespace Eng
open PySem PySem.Spec L2
def rD (q : Rat) : D := .tuple [.int q.num, .int (q.den : Int)]
theorem rD_inj {a b : Rat} (h : rD a = rD b) : a = b := by
  unfold rD at h
  injection h with h
  injection h with h1 h2
  injection h1 with h1
  injection h2 with h2 _
  injection h2 with h2
  exact Rat.ext h1 (Int.ofNat.inj h2)
theorem isRatio_rD (q : Rat) : isRatio (rD q) = true := by
  have h1 := q.den_pos
  have h2 : Int.gcd q.num (q.den : Int) = 1 := q.reduced
  simp only [isRatio, rD, Bool.and_eq_true, decide_eq_true_eq]
  exact ⟨by omega, h2⟩
theorem ratio_rD {t : D} (h : isRatio t = true) : ∃ q, t = rD q := by
  obtain ⟨p, q, rfl, h1, h2⟩ := ratio_tup h
  refine ⟨⟨p, q.toNat, by omega, ?_⟩, ?_⟩
  · have : q.natAbs = q.toNat := by omega
    rw [← this]; exact h2
  · unfold rD
    simp only
    rw [Int.toNat_of_nonneg (by omega)]
def Sm (k : Nat) (q : Rat) : Prop := q.num.natAbs < 2 ^ k ∧ q.den < 2 ^ k
theorem Sm.mono {k m : Nat} {q : Rat} (h : Sm k q) (hm : k ≤ m) : Sm m q := by
  have := Nat.pow_le_pow_right (n := 2) (by decide) hm
  exact ⟨Nat.lt_of_lt_of_le h.1 this, Nat.lt_of_lt_of_le h.2 this⟩
theorem lean_rD {p q : Int} (hq : 0 < q) : PyData.tuple [.int (p.fdiv (Int.gcd p q : Nat)), .int (q.fdiv (Int.gcd p q : Nat))] = rD (Rat.divInt p q) := by
  unfold rD
  rw [Rat.num_divInt, Rat.den_divInt, if_neg (by omega), Int.sign_eq_one_of_pos hq, Int.one_mul, Int.gcd_comm q p]
  rw [Int.fdiv_eq_ediv_of_nonneg _ (by omega), Int.fdiv_eq_ediv_of_nonneg _ (by omega), Int.natCast_ediv, Int.natAbs_of_nonneg (by omega)]
theorem lean_rDn {p q : Int} (hq : q < 0) : PyData.tuple [.int (p.fdiv (-(Int.gcd p q : Nat))), .int (q.fdiv (-(Int.gcd p q : Nat)))] = rD (Rat.divInt p q) := by
  have e := lean_rD (p := -p) (q := -q) (by omega)
  rw [Rat.neg_divInt_neg, Int.gcd_neg, Int.neg_gcd] at e
  rw [← e]
  have f : ∀ a b : Int, Int.fdiv a (-b) = Int.fdiv (-a) b := fun a b => by
    have := Int.neg_fdiv_neg (-a) b
    rwa [Int.neg_neg] at this
  rw [f, f]
theorem divInt_sm {p q : Int} {k : Nat} (hp : p.natAbs < 2 ^ k) (hq : q.natAbs < 2 ^ k) (h0 : q ≠ 0) : Sm k (Rat.divInt p q) := by
  constructor
  · rw [Rat.num_divInt]
    refine Nat.lt_of_le_of_lt ?_ hp
    have d : (q.gcd p : Int) ∣ q.sign * p := Int.dvd_trans (Int.gcd_dvd_right ..) (Int.dvd_mul_left ..)
    rw [Int.natAbs_ediv_of_dvd d, Int.natAbs_mul, Int.natAbs_sign_of_ne_zero h0, Nat.one_mul]
    exact Nat.div_le_self _ _
  · rw [Rat.den_divInt, if_neg h0]
    exact Nat.lt_of_le_of_lt (Nat.div_le_self _ _) hq
theorem add_divInt (a b : Rat) : a + b = Rat.divInt (a.num * b.den + b.num * a.den) (a.den * b.den) := by
  rw [Rat.add_def', ← Rat.divInt_ofNat, Int.natCast_mul]
theorem sub_divInt (a b : Rat) : a - b = Rat.divInt (a.num * b.den - b.num * a.den) (a.den * b.den) := by
  rw [Rat.sub_def', ← Rat.divInt_ofNat, Int.natCast_mul]
theorem mul_divInt (a b : Rat) : a * b = Rat.divInt (a.num * b.num) (a.den * b.den) := by
  rw [Rat.mul_def', ← Rat.divInt_ofNat, Int.natCast_mul]
theorem div_divInt (a b : Rat) : a / b = Rat.divInt (a.num * b.den) (a.den * b.num) := by
  have h := Rat.num_divInt_den a
  have g := Rat.num_divInt_den b
  rw [Rat.div_def]
  conv => lhs; rw [← h, ← g, Rat.inv_divInt, Rat.divInt_mul_divInt]
/-! ### bounds: whole numbers over one base -/
def RK (L M : Nat) (q : Rat) : Prop := ∃ k : Int, q = mkRat k L ∧ k.natAbs ≤ M
theorem RK.mono {L M N : Nat} {q : Rat} (h : RK L M q) (hm : M ≤ N) : RK L N q := by
  obtain ⟨k, h1, h2⟩ := h
  exact ⟨k, h1, by omega⟩
theorem RK.scale {L M : Nat} {q : Rat} (h : RK L M q) {c : Nat} (hc : 0 < c) : RK (L * c) (M * c) q := by
  obtain ⟨k, h1, h2⟩ := h
  refine ⟨k * c, by rw [h1, Rat.mkRat_mul_right (by omega)], ?_⟩
  rw [Int.natAbs_mul, Int.natAbs_natCast]
  exact Nat.mul_le_mul_right c h2
theorem RK.add {L M N : Nat} {a b : Rat} (hL : 0 < L) (h : RK L M a) (g : RK L N b) : RK L (M + N) (a + b) := by
  obtain ⟨k, rfl, h2⟩ := h
  obtain ⟨l, rfl, g2⟩ := g
  refine ⟨k + l, ?_, by omega⟩
  rw [Rat.mkRat_add_mkRat _ _ (by omega) (by omega), ← Int.add_mul, Rat.mkRat_mul_right (by omega)]
theorem RK.neg {L M : Nat} {a : Rat} (h : RK L M a) : RK L M (-a) := by
  obtain ⟨k, rfl, h2⟩ := h
  exact ⟨-k, by rw [Rat.neg_mkRat], by omega⟩
theorem RK.sub {L M N : Nat} {a b : Rat} (hL : 0 < L) (h : RK L M a) (g : RK L N b) : RK L (M + N) (a - b) := by
  rw [Rat.sub_eq_add_neg]
  exact h.add hL g.neg
theorem RK.mul {L M K N : Nat} {a b : Rat} (h : RK L M a) (g : RK K N b) : RK (L * K) (M * N) (a * b) := by
  obtain ⟨k, rfl, h2⟩ := h
  obtain ⟨l, rfl, g2⟩ := g
  refine ⟨k * l, by rw [Rat.mkRat_mul_mkRat], ?_⟩
  rw [Int.natAbs_mul]
  exact Nat.mul_le_mul h2 g2
theorem RK.sm {L M k : Nat} {q : Rat} (h : RK L M q) (h0 : 0 < L) (hL : L < 2 ^ k) (hM : M < 2 ^ k) : Sm k q := by
  obtain ⟨l, rfl, h2⟩ := h
  rw [← Rat.divInt_ofNat]
  exact divInt_sm (by omega) (by simpa using hL) (by omega)
theorem RK.zero {L M : Nat} : RK L M 0 := ⟨0, by simp, by simp⟩
theorem RK.of {L M : Nat} {p : Int} {d : Nat} (h : d ∣ L) (h0 : 0 < L) (hM : p.natAbs * (L / d) ≤ M) : RK L M (Rat.divInt p d) := by
  obtain ⟨c, rfl⟩ := h
  have hd : 0 < d := Nat.pos_of_ne_zero fun e => by subst e; simp at h0
  have hc : 0 < c := Nat.pos_of_ne_zero fun e => by subst e; simp at h0
  rw [Nat.mul_div_cancel_left _ hd] at hM
  refine ⟨p * c, by rw [Rat.divInt_ofNat, Rat.mkRat_mul_right (by omega)], ?_⟩
  rw [Int.natAbs_mul, Int.natAbs_natCast]
  exact hM
/-- the base of all drawn fractions -/
def LB : Nat := 9690712164777231700912800
theorem LB_dvd : ∀ d : Nat, 0 < d → d ≤ 60 → d ∣ LB := by
  have h : ∀ d : Fin 61, 0 < d.val → d.val ∣ LB := by decide +kernel
  exact fun d h0 h1 => h ⟨d, by omega⟩ h0
theorem LB_pos : 0 < LB := by decide +kernel
/-! ### ratios of so many bits -/
def RB (k : Nat) (t : D) : Prop := ∃ q : Rat, t = rD q ∧ Sm k q
theorem RB.ratio {k : Nat} {t : D} (h : RB k t) : isRatio t = true := by
  obtain ⟨q, rfl, _⟩ := h
  exact isRatio_rD q
theorem sm_pow {k m : Nat} (h : k ≤ m) : 2 ^ k ≤ 2 ^ m := Nat.pow_le_pow_right (by decide) h
theorem sm_ok {i j : Int} {k : Nat} (hk : k ≤ 10000) (hi : i.natAbs < 2 ^ k) (hj : j.natAbs < 2 ^ k) : mulOk i j = true :=
  mulOk_small (Nat.lt_of_lt_of_le hi (sm_pow hk)) (Nat.lt_of_lt_of_le hj (sm_pow hk))
theorem sm_mul {i j : Int} {k : Nat} (hi : i.natAbs < 2 ^ k) (hj : j.natAbs < 2 ^ k) : (i * j).natAbs < 2 ^ (2 * k) := by
  rw [Int.natAbs_mul, Nat.two_mul, Nat.pow_add]
  exact Nat.mul_lt_mul'' hi hj
theorem sm_add {i j : Int} {k : Nat} (hi : i.natAbs < 2 ^ k) (hj : j.natAbs < 2 ^ k) : (i + j).natAbs < 2 ^ (k + 1) := by
  rw [Nat.pow_succ]; omega
theorem sm_sub {i j : Int} {k : Nat} (hi : i.natAbs < 2 ^ k) (hj : j.natAbs < 2 ^ k) : (i - j).natAbs < 2 ^ (k + 1) := by
  rw [Nat.pow_succ]; omega
theorem sm_up {i : Int} {k m : Nat} (hi : i.natAbs < 2 ^ k) (h : k ≤ m) : i.natAbs < 2 ^ m := Nat.lt_of_lt_of_le hi (sm_pow h)
theorem Sm.num {k : Nat} {q : Rat} (h : Sm k q) : q.num.natAbs < 2 ^ k := h.1
theorem Sm.den {k : Nat} {q : Rat} (h : Sm k q) : (q.den : Int).natAbs < 2 ^ k := by simpa using h.2
end Eng
set_option Elab.async false
set_option linter.all false
set_option maxRecDepth 100000
set_option maxHeartbeats 1000000
/-! Eng24: slices, places, drawn trials. -/
namespace Eng
open PySem PySem.Spec L2
theorem cut_mem {α : Type} {xs : List α} {lo hi : Option Int} {t : α} (h : t ∈ cut xs lo hi) : t ∈ xs := List.mem_of_mem_drop (List.mem_of_mem_take h)
theorem cut_len {α : Type} {xs : List α} {lo hi : Option Int} : (cut xs lo hi).length ≤ xs.length := by
  unfold cut
  rw [List.length_take, List.length_drop]
  omega
theorem cut_take {α : Type} {xs : List α} {k : Nat} (h : k ≤ xs.length) : cut xs none (some (k : Int)) = xs.take k := by
  unfold cut
  rw [HT.sIx_nat, HT.sIx_none, List.drop_zero]
  congr 1
  omega
theorem cut_drop {α : Type} {xs : List α} {k : Nat} (h : k ≤ xs.length) : cut xs (some (k : Int)) none = xs.drop k := by
  unfold cut
  rw [HT.sIx_nat, HT.sIx_none, Nat.min_eq_left h]
  exact List.take_of_length_le (by rw [List.length_drop]; omega)
theorem cut_last {α : Type} {xs : List α} : cut xs none (some (-1)) = xs.take (xs.length - 1) := by
  unfold cut
  rw [HT.sIx_none, List.drop_zero]
  congr 1
  show (if (-1 : Int) < 0 then ((-1 : Int) + (xs.length : Int)).toNat else min (-1 : Int).toNat xs.length) - 0 = _
  rw [if_pos (by decide)]
  omega
theorem gd_cut {L B : Nat} {xs : List D} {lo hi : Option Int} (h : gd L B (.tuple xs) = true) : gd L B (.tuple (cut xs lo hi)) = true := by
  rw [gd_tup] at h ⊢
  exact ⟨Nat.le_trans cut_len h.1, fun t ht => h.2 t (cut_mem ht)⟩
theorem gd_rev {L B : Nat} {xs : List D} (h : gd L B (.tuple xs) = true) : gd L B (.tuple xs.reverse) = true := by
  rw [gd_tup] at h ⊢
  exact ⟨by rw [List.length_reverse]; exact h.1, fun t ht => h.2 t (List.mem_reverse.mp ht)⟩
theorem atI_eq {xs : List D} {d : Int} (h0 : 0 ≤ d) (h1 : d < xs.length) : atI xs d = xs[d.toNat]? := by
  unfold atI ixN
  rw [if_pos h0, if_pos h1]
  rfl
theorem atI_nat {xs : List D} {k : Nat} (h : k < xs.length) : atI xs (k : Int) = some xs[k] := by
  rw [atI_eq (by omega) (by omega), Int.toNat_natCast, List.getElem?_eq_getElem h]
theorem eqL0 (xs : List D) : eqD (.list xs) (.list []) = some xs.isEmpty := by
  unfold eqD
  split
  · cases xs <;> simp [PyData.eqv, PyData.eqvAll]
  · cases xs <;> rfl
theorem lc_zip {α β : Type} {bind : D → Eng.Env → Option Eng.Env} {cond : Eng.Env → Option (Bool × Eng.Env)} {elt : Eng.Env → Option (Val × Eng.Env)} {own : List Nat} {ρ : Eng.Env} {f : α → D} {f' : β → D} {g : α → β → D} : ∀ {as : List α} {bs : List β}, (∀ a ∈ as, ∀ b ∈ bs, ∃ ρ1 ρ2 v ρ3, bind (.tuple [f a, f' b]) ρ = some ρ1 ∧ cond ρ1 = some (true, ρ2) ∧ elt ρ2 = some (v, ρ3) ∧ v.dat = g a b ∧ wipeE ρ3 own = ρ) →
    compLoop bind cond elt own (pairUp (as.map f) (bs.map f')) ρ = some (List.zipWith g as bs, ρ)
  | [], _, _ => by simp [pairUp, compLoop]
  | _ :: _, [], _ => by simp [pairUp, compLoop]
  | a :: as, b :: bs, h => by
    obtain ⟨ρ1, ρ2, v, ρ3, h1, h2, h3, h4, h5⟩ := h a List.mem_cons_self b List.mem_cons_self
    have ih := lc_zip (as := as) (bs := bs) fun a ha b hb => h a (List.mem_cons_of_mem _ ha) b (List.mem_cons_of_mem _ hb)
    rw [List.map_cons, List.map_cons, pairUp]
    unfold compLoop
    rw [h1, Option.bind_some, h2, Option.bind_some]
    simp only [if_true]
    rw [h3, Option.bind_some]
    simp only
    rw [h5, ih, h4]
    rfl
/-! ### drawn trials -/
def rowD (r : List Rat) : D := .tuple (r.map rD)
def blD (b : List Int) : D := .tuple (b.map PyData.int)
def trialD (rows : List (List Rat)) (sps : List Rat) (bls : List Int) : D := .tuple [.tuple (rows.map rowD), .tuple (sps.map rD), blD bls]
def MB : Nat := 1024 * 1000000 * LB
/-- a trial as the laws draw it -/
structure DT (few most : Nat) (rows : List (List Rat)) (sps : List Rat) (bls : List Int) : Prop where
  few0 : 1 ≤ few
  few5 : few ≤ 5
  many0 : 1 ≤ rows.length
  many1 : rows.length ≤ most
  row : ∀ r ∈ rows, r.length = few ∧ ∀ x ∈ r, RK LB MB x
  spl : sps.length = rows.length
  sp : ∀ s ∈ sps, 0 < s ∧ RK 6 30 s
  bl : bls = [] ∨ (bls.length = rows.length ∧ ∀ b ∈ bls, 0 ≤ b ∧ b ≤ 4)
theorem isRow_rowD (r : List Rat) : isRow (rowD r) (r.length : Int) = true := by
  simp only [isRow, rowD, List.length_map, decide_true, Bool.true_and, List.all_eq_true, List.mem_map]
  rintro _ ⟨x, _, rfl⟩
  exact isRatio_rD x
theorem row_rowD {t : D} {m : Int} (h : isRow t m = true) : ∃ r : List Rat, t = rowD r ∧ (r.length : Int) = m := by
  obtain ⟨xs, rfl, hl, hr⟩ := row_tup h
  have : ∀ xs : List D, (∀ t ∈ xs, isRatio t = true) → ∃ r : List Rat, xs = r.map rD := by
    intro xs
    induction xs with
    | nil => exact fun _ => ⟨[], rfl⟩
    | cons x xs ih =>
      intro h
      obtain ⟨q, rfl⟩ := ratio_rD (h x List.mem_cons_self)
      obtain ⟨r, rfl⟩ := ih fun t ht => h t (List.mem_cons_of_mem _ ht)
      exact ⟨q :: r, rfl⟩
  obtain ⟨r, rfl⟩ := this xs hr
  exact ⟨r, rfl, by rw [← hl, List.length_map]⟩
theorem posR_rD (q : Rat) : posR (rD q) = decide (0 < q) := by
  show decide (0 < q.num) = _
  refine decide_eq_decide.mpr ?_
  rw [Rat.lt_iff]
  simp
theorem isTrial_trialD {few most : Nat} {rows : List (List Rat)} {sps : List Rat} {bls : List Int} (h : DT few most rows sps bls) (hm : most ≤ 10) : isTrial (trialD rows sps bls) = true := by
  obtain ⟨f0, f5, m0, m1, hr, hl, hs, hb⟩ := h
  cases rows with
  | nil => simp at m0
  | cons r0 rs =>
    have e0 := (hr r0 List.mem_cons_self).1
    simp only [isTrial, trialD, Bool.and_eq_true]
    refine ⟨?_, ?_, ?_, ?_⟩
    · simp only [arePlots, List.map_cons, rowD, Bool.and_eq_true, decide_eq_true_eq, List.length_cons, List.length_map, List.all_eq_true]
      simp only [List.length_cons] at m1
      refine ⟨by omega, by omega, by omega, by omega, fun t ht => ?_⟩
      have : ∃ r ∈ r0 :: rs, t = rowD r := by
        rcases List.mem_cons.mp ht with rfl | ht
        · exact ⟨r0, List.mem_cons_self, rfl⟩
        · obtain ⟨r, h1, h2⟩ := List.mem_map.mp ht
          exact ⟨r, List.mem_cons_of_mem _ h1, h2.symm⟩
      obtain ⟨r, h1, rfl⟩ := this
      rw [e0, ← (hr r h1).1]
      exact isRow_rowD r
    · have := isRow_rowD sps
      rw [hl] at this
      simpa only [lenD, List.length_map, rowD] using this
    · simp only [posAll, List.all_eq_true, List.mem_map]
      rintro _ ⟨s, h1, rfl⟩
      rw [posR_rD]
      exact decide_eq_true (hs s h1).1
    · simp only [areBlocks, blD, Bool.or_eq_true, Bool.and_eq_true, decide_eq_true_eq, lenD, List.length_map, List.all_eq_true, List.mem_map]
      rcases hb with rfl | ⟨h1, h2⟩
      · exact .inl rfl
      · refine .inr ⟨by rw [h1], ?_⟩
        rintro _ ⟨b, hb, rfl⟩
        simp only [isBetween, Bool.and_eq_true, decide_eq_true_eq]
        exact h2 b hb
theorem gd_rD {L B : Nat} {q : Rat} (hL : 2 ≤ L) (h1 : q.num.natAbs < B) (h2 : q.den < B) : gd L B (rD q) = true := by
  rw [rD, gd_tup]
  refine ⟨hL, fun t ht => ?_⟩
  simp only [List.mem_cons, List.not_mem_nil, or_false] at ht
  rcases ht with rfl | rfl
  · exact gd_int.mpr h1
  · exact gd_int.mpr (by simpa using h2)
theorem gd_row {L B : Nat} {r : List Rat} (hL : 2 ≤ L) (hl : r.length ≤ L) (h : ∀ x ∈ r, x.num.natAbs < B ∧ x.den < B) : gd L B (rowD r) = true := by
  rw [rowD, gd_tup]
  refine ⟨by rw [List.length_map]; exact hl, fun t ht => ?_⟩
  obtain ⟨x, h1, rfl⟩ := List.mem_map.mp ht
  exact gd_rD hL (h x h1).1 (h x h1).2
theorem gd_trial {few most : Nat} {rows : List (List Rat)} {sps : List Rat} {bls : List Int} (h : DT few most rows sps bls) (hm : most ≤ 10) : gd 10 (2 ^ 200) (trialD rows sps bls) = true := by
  obtain ⟨f0, f5, m0, m1, hr, hl, hs, hb⟩ := h
  rw [trialD, gd_tup]
  refine ⟨by simp, fun t ht => ?_⟩
  simp only [List.mem_cons, List.not_mem_nil, or_false] at ht
  rcases ht with rfl | rfl | rfl
  · rw [gd_tup]
    refine ⟨by rw [List.length_map]; omega, fun t ht => ?_⟩
    obtain ⟨r, h1, rfl⟩ := List.mem_map.mp ht
    have h2 := hr r h1
    exact gd_row (by decide) (by omega) fun x hx => (h2.2 x hx).sm (k := 200) LB_pos (by decide +kernel) (by decide +kernel)
  · exact gd_row (by decide) (by omega) fun x hx => (hs x hx).2.sm (k := 200) (by decide) (by decide +kernel) (by decide +kernel)
  · rw [blD, gd_tup]
    have hb2 : bls.length ≤ 10 ∧ ∀ b ∈ bls, 0 ≤ b ∧ b ≤ 4 := by
      rcases hb with rfl | ⟨h1, h2⟩
      · exact ⟨by simp, fun b h => by simp at h⟩
      · exact ⟨by omega, h2⟩
    refine ⟨by rw [List.length_map]; exact hb2.1, fun t ht => ?_⟩
    obtain ⟨b, h1, rfl⟩ := List.mem_map.mp ht
    have := hb2.2 b h1
    have p : 5 < 2 ^ 200 := by decide +kernel
    exact gd_int.mpr (by omega)
end Eng
set_option Elab.async false
set_option linter.all false
set_option maxRecDepth 100000
set_option maxHeartbeats 1000000
/-! Eng25: data that can be shown, and texts of it compared. -/
namespace Eng
open PySem PySem.Spec L2 PyProof.Rows
/-- plain data (no texts, no dicts) of a depth, of so many cells, of short numbers -/
structure PO (d n : Nat) (t : D) : Prop where
  lay : t.canLay0 = true
  show_ : t.showable = true
  dep : t.depth ≤ d
  blk : t.bulk ≤ n
  short : t.leavesShort 1921 = true
  cps : ∀ c ∈ t.shown.cps.toList, c < 0x110000
theorem PO.mono {d n d' n' : Nat} {t : D} (h : PO d n t) (hd : d ≤ d') (hn : n ≤ n') : PO d' n' t := ⟨h.lay, h.show_, Nat.le_trans h.dep hd, Nat.le_trans h.blk hn, h.short, h.cps⟩
theorem PO.none : PO 0 0 .none := ⟨rfl, rfl, Nat.le_refl _, Nat.le_refl _, rfl, by decide⟩
theorem PO.bool (b : Bool) : PO 0 0 (.bool b) := ⟨rfl, rfl, Nat.le_refl _, Nat.le_refl _, rfl, by cases b <;> decide⟩
theorem PO.int {i : Int} (h : i.natAbs.log2 < 1920) : PO 0 0 (.int i) := by
  refine ⟨rfl, by simpa [PyData.showable] using h, Nat.le_refl _, Nat.le_refl _, ?_, fun c hc => ?_⟩
  · show decide ((PyData.shown (.int i)).length ≤ 1921) = true
    exact decide_eq_true (int_text_len_1921 h)
  · refine Nat.lt_of_not_le fun hge => ?_
    exact shown_int_free' (k := c) ⟨by omega, by omega⟩ i hc
theorem PO.int2 {i : Int} (h : i.natAbs < 2 ^ 1900) : PO 0 0 (.int i) := PO.int (by
  by_cases z : i.natAbs = 0
  · rw [z]; decide
  · exact Nat.lt_of_lt_of_le ((Nat.log2_lt z).mpr h) (by decide))
theorem po_all {d n : Nat} : ∀ {xs : List D}, (∀ t ∈ xs, PO d n t) → PyData.canLayAll0 xs = true ∧ PyData.showableAll xs = true ∧ PyData.depthAll xs ≤ d ∧ PyData.bulkAll xs ≤ xs.length * (n + 1) ∧ PyData.leavesShortAll 1921 xs = true ∧ ∀ s ∈ PyData.shownAll xs, ∀ c ∈ s.cps.toList, c < 0x110000
  | [], _ => ⟨rfl, rfl, Nat.zero_le _, Nat.zero_le _, rfl, fun s hs => by simp [PyData.shownAll] at hs⟩
  | x :: xs, h => by
    obtain ⟨h1, h2, h3, h4, h5, h6⟩ := po_all fun t ht => h t (List.mem_cons_of_mem _ ht)
    have hx := h x List.mem_cons_self
    refine ⟨?_, ?_, ?_, ?_, ?_, fun s hs => ?_⟩
    · simp [PyData.canLayAll0, hx.lay, h1]
    · simp [PyData.showableAll, hx.show_, h2]
    · simp only [PyData.depthAll]; exact Nat.max_le.mpr ⟨hx.dep, h3⟩
    · have := hx.blk
      simp only [PyData.bulkAll, List.length_cons, Nat.succ_mul]
      omega
    · simp [PyData.leavesShortAll, hx.short, h5]
    · simp only [PyData.shownAll, List.mem_cons] at hs
      rcases hs with rfl | hs
      · exact hx.cps
      · exact h6 s hs
theorem PO.tuple {d n : Nat} {xs : List D} (h : ∀ t ∈ xs, PO d n t) : PO (d + 1) (xs.length * (n + 1)) (.tuple xs) := by
  obtain ⟨h1, h2, h3, h4, h5, h6⟩ := po_all h
  refine ⟨by simpa [PyData.canLay0] using h1, by simpa [PyData.showable] using h2, by simp only [PyData.depth]; omega, by simpa only [PyData.bulk] using h4, by simpa only [PyData.leavesShort] using h5, fun c hc => ?_⟩
  rw [PyData.shown_tuple] at hc
  rw [mem_cps_append, mem_cps_append, signs_lparen, mem_join, signs_tuple_end] at hc
  rcases hc with (hc | ⟨t, ht, hc⟩ | ⟨_, hc⟩) | hc
  · rw [List.mem_singleton.mp hc]; decide
  · exact h6 t ht c hc
  · rw [signs_sep] at hc
    simp only [List.mem_cons, List.not_mem_nil, or_false] at hc
    rcases hc with rfl | rfl <;> decide
  · split at hc <;> simp only [List.mem_cons, List.not_mem_nil, or_false] at hc
    · rcases hc with rfl | rfl <;> decide
    · rw [hc]; decide
theorem PO.list {d n : Nat} {xs : List D} (h : ∀ t ∈ xs, PO d n t) : PO (d + 1) (xs.length * (n + 1)) (.list xs) := by
  obtain ⟨h1, h2, h3, h4, h5, h6⟩ := po_all h
  refine ⟨by simpa [PyData.canLay0] using h1, by simpa [PyData.showable] using h2, by simp only [PyData.depth]; omega, by simpa only [PyData.bulk] using h4, by simpa only [PyData.leavesShort] using h5, fun c hc => ?_⟩
  rw [PyData.shown_list] at hc
  rw [mem_cps_append, mem_cps_append, signs_lbrack, mem_join, signs_rbrack] at hc
  rcases hc with (hc | ⟨t, ht, hc⟩ | ⟨_, hc⟩) | hc
  · rw [List.mem_singleton.mp hc]; decide
  · exact h6 t ht c hc
  · rw [signs_sep] at hc
    simp only [List.mem_cons, List.not_mem_nil, or_false] at hc
    rcases hc with rfl | rfl <;> decide
  · rw [List.mem_singleton.mp hc]; decide
theorem PO.shaped {d n : Nat} {t : D} (h : PO d n t) (hd : d ≤ 64) : SeqAt.shaped t = true := by
  unfold SeqAt.shaped
  rw [h.lay, decide_eq_true (Nat.le_trans h.dep hd)]
  rfl
theorem PO.len {d n : Nat} {t : D} (h : PO d n t) (hn : n ≤ 500) : t.shown.length ≤ szL := by
  have h1 := PyData.shown_le_bulk 1921 (by decide) t h.short
  have h2 := h.blk
  have h3 : (1921 + 2) * t.bulk ≤ 1923 * 500 := Nat.mul_le_mul (by decide) (by omega)
  show _ ≤ 1000000
  omega
theorem PO.repr {d n : Nat} {t : D} {v : Val} (h : PO d n t) (e : v.dat = t) (hd : d ≤ 64) (hn : n ≤ 500) : prim .repr [v] = some (.d (.str t.shown)) := by
  subst e
  rw [x_p_repr, h.shaped hd, h.show_, decide_eq_true (h.len hn)]
  rfl
theorem PO.strOk {d n : Nat} {t : D} (h : PO d n t) : SeqAt.shaped (.str t.shown) = true := by
  unfold SeqAt.shaped
  have h1 : (PyData.str t.shown).canLay0 = true := by
    show t.shown.cps.all _ = true
    rw [← Array.all_toList, List.all_eq_true]
    intro c hc
    exact decide_eq_true (h.cps c hc)
  rw [h1]
  rfl
/-- equal texts -/
theorem PO.eqS {d n : Nat} {t : D} (h : PO d n t) : eqD (.str t.shown) (.str t.shown) = some true := by
  unfold eqD
  rw [h.strOk]
  show some (PyData.eqv (.str t.shown) (.str t.shown)) = _
  simp [PyData.eqv]
/-! ### levels and unknowns of drawn trials -/
def levN : List Int → Int
  | [] => 0
  | n :: r => r.foldl max n + 1
theorem levD_trialD (rows : List (List Rat)) (sps : List Rat) (bls : List Int) : levD (trialD rows sps bls) = levN bls := by
  have e : intsOf (bls.map PyData.int) = some bls := by
    have := intsOf_map bls (fun i => i)
    simpa using this
  simp only [levD, trialD, blD, e]
  cases bls <;> rfl
theorem foldl_max_bound {lo hi : Int} : ∀ (r : List Int) (n : Int), lo ≤ n → n ≤ hi → (∀ x ∈ r, lo ≤ x ∧ x ≤ hi) → lo ≤ r.foldl max n ∧ r.foldl max n ≤ hi
  | [], n, h1, h2, _ => ⟨h1, h2⟩
  | x :: r, n, h1, h2, h => by
    have hx := h x List.mem_cons_self
    exact foldl_max_bound r (max n x) (by omega) (by omega) fun y hy => h y (List.mem_cons_of_mem _ hy)
theorem levN_bound {few most : Nat} {rows : List (List Rat)} {sps : List Rat} {bls : List Int} (h : DT few most rows sps bls) : 0 ≤ levN bls ∧ levN bls ≤ 5 := by
  rcases h.bl with rfl | ⟨_, hb⟩
  · exact ⟨by decide, by decide⟩
  · cases bls with
    | nil => exact ⟨by decide, by decide⟩
    | cons n r =>
      have h0 := hb n List.mem_cons_self
      have := foldl_max_bound (lo := 0) (hi := 4) r n h0.1 h0.2 fun x hx => hb x (List.mem_cons_of_mem _ hx)
      exact ⟨by simp only [levN]; omega, by simp only [levN]; omega⟩
theorem manyD_trialD {few most : Nat} {rows : List (List Rat)} {sps : List Rat} {bls : List Int} (h : DT few most rows sps bls) : manyD (trialD rows sps bls) = few := by
  cases rows with
  | nil => have := h.many0; simp at this
  | cons r rs =>
    have := (h.row r List.mem_cons_self).1
    simp only [manyD, trialD, List.map_cons, rowD, List.length_map, this]
theorem gd_rep {L B M : Nat} {xs : List D} {k : Nat} (h : gd L B (.tuple xs) = true) (hm : k * xs.length ≤ M) (hl : L ≤ M) : gd M B (.tuple (List.replicate k xs).flatten) = true := by
  rw [gd_tup] at h ⊢
  refine ⟨?_, fun t ht => ?_⟩
  · rw [List.length_flatten, List.map_replicate, List.sum_replicate_nat]
    exact hm
  · obtain ⟨l, h1, h2⟩ := List.mem_flatten.mp ht
    rw [(List.mem_replicate.mp h1).2] at h2
    exact gd_mono hl (Nat.le_refl _) (h.2 t h2)
theorem gd_app {L B M : Nat} {xs ys : List D} (h : gd L B (.tuple xs) = true) (g : gd L B (.tuple ys) = true) (hm : xs.length + ys.length ≤ M) (hl : L ≤ M) : gd M B (.tuple (xs ++ ys)) = true := by
  rw [gd_tup] at h g ⊢
  refine ⟨by rw [List.length_append]; exact hm, fun t ht => ?_⟩
  rcases List.mem_append.mp ht with m | m
  · exact gd_mono hl (Nat.le_refl _) (h.2 t m)
  · exact gd_mono hl (Nat.le_refl _) (g.2 t m)
theorem gd_3 {L B : Nat} {x y z : D} (hL : 3 ≤ L) (hx : gd L B x = true) (hy : gd L B y = true) (hz : gd L B z = true) : gd L B (.tuple [x, y, z]) = true := by
  rw [gd_tup]
  refine ⟨hL, fun t ht => ?_⟩
  simp only [List.mem_cons, List.not_mem_nil, or_false] at ht
  rcases ht with rfl | rfl | rfl <;> assumption
theorem gd_1 {L B : Nat} {x : D} (hL : 1 ≤ L) (hx : gd L B x = true) : gd L B (.tuple [x]) = true := by
  rw [gd_tup]
  exact ⟨hL, fun t ht => by rw [List.mem_singleton.mp ht]; exact hx⟩
theorem gd_2 {L B : Nat} {x y : D} (hL : 2 ≤ L) (hx : gd L B x = true) (hy : gd L B y = true) : gd L B (.tuple [x, y]) = true := by
  rw [gd_tup]
  refine ⟨hL, fun t ht => ?_⟩
  simp only [List.mem_cons, List.not_mem_nil, or_false] at ht
  rcases ht with rfl | rfl <;> assumption
end Eng
set_option Elab.async false
set_option linter.all false
set_option maxRecDepth 100000
set_option maxHeartbeats 1000000
/-! Eng26: sums of products of rows; yields. -/
namespace Eng
open PySem PySem.Spec L2
theorem rD_zero : rD 0 = .tuple [.int 0, .int 1] := rfl
theorem rD_one : rD 1 = .tuple [.int 1, .int 1] := rfl
def sumR (s : Rat) (ps : List Rat) : Rat := ps.foldl (fun s x => s + x) s
def prodR (a b : List Rat) : List Rat := List.zipWith (fun x y => x * y) a b
def dotR (a b : List Rat) : Rat := sumR 0 (prodR a b)
theorem sumR_cons (s x : Rat) (ps : List Rat) : sumR s (x :: ps) = sumR (s + x) ps := rfl
theorem sumR_append (s : Rat) (ps qs : List Rat) : sumR s (ps ++ qs) = sumR (sumR s ps) qs := List.foldl_append
theorem sumR_add : ∀ (ps : List Rat) (s t : Rat), sumR (s + t) ps = s + sumR t ps
  | [], s, t => rfl
  | x :: ps, s, t => by rw [sumR_cons, sumR_cons, Rat.add_assoc, sumR_add ps s (t + x)]
theorem sumR_zero (s : Rat) (ps : List Rat) : sumR s ps = s + sumR 0 ps := by
  have := sumR_add ps s 0
  rwa [Rat.add_zero] at this
/-- so many numbers over one base, added up -/
structure SOK (L M : Nat) (ps : List Rat) : Prop where
  l0 : 0 < L
  l1 : L < 2 ^ 3000
  m1 : M < 2 ^ 3000
  len : ps.length ≤ 100
  rk : ∀ x ∈ ps, RK L M x
theorem sm_of_rk {L M k : Nat} {x : Rat} (h : RK L (M * k) x) (l0 : 0 < L) (l1 : L < 2 ^ 3000) (m1 : M < 2 ^ 3000) (hk : k ≤ 100) : Sm 3900 x := by
  refine h.sm l0 (Nat.lt_of_lt_of_le l1 (sm_pow (by decide))) ?_
  have h1 : M * k ≤ 2 ^ 3000 * 100 := Nat.mul_le_mul (Nat.le_of_lt m1) hk
  have h2 : 2 ^ 3000 * 100 < 2 ^ 3000 * 2 ^ 7 := Nat.mul_lt_mul_of_pos_left (by decide) (Nat.pow_pos (by decide))
  rw [← Nat.pow_add] at h2
  exact Nat.lt_of_le_of_lt h1 (Nat.lt_of_lt_of_le h2 (sm_pow (by decide)))
theorem SOK.sum {L M : Nat} {ps : List Rat} (h : SOK L M ps) : RK L (M * ps.length) (sumR 0 ps) := by
  have : ∀ (ps : List Rat) (s : Rat) (k : Nat), (∀ x ∈ ps, RK L M x) → RK L (M * k) s → RK L (M * (k + ps.length)) (sumR s ps) := by
    intro ps
    induction ps with
    | nil => exact fun s k _ h => h
    | cons x ps ih =>
      intro s k hp hs
      have := ih (s + x) (k + 1) (fun y hy => hp y (List.mem_cons_of_mem _ hy)) (by
        have := hs.add h.l0 (hp x List.mem_cons_self)
        rwa [← Nat.mul_succ] at this)
      rw [List.length_cons, sumR_cons]
      have e : k + (ps.length + 1) = k + 1 + ps.length := by omega
      rw [e]; exact this
  have := this ps 0 0 h.rk RK.zero
  rwa [Nat.zero_add] at this
/-- rows whose products are added up -/
structure DOK (L M : Nat) (a b : List Rat) : Prop where
  l0 : 0 < L
  l1 : L < 2 ^ 3000
  m1 : M < 2 ^ 3000
  len : a.length ≤ 100
  sa : ∀ x ∈ a, Sm 3900 x
  sb : ∀ x ∈ b, Sm 3900 x
  rk : ∀ x ∈ a, ∀ y ∈ b, RK L M (x * y)
theorem mem_zipWith {α β γ : Type} {f : α → β → γ} : ∀ {as : List α} {bs : List β} {c : γ}, c ∈ List.zipWith f as bs → ∃ a ∈ as, ∃ b ∈ bs, c = f a b
  | [], _, _, h => by simp at h
  | _ :: _, [], _, h => by simp at h
  | a :: as, b :: bs, c, h => by
    rw [List.zipWith_cons_cons] at h
    rcases List.mem_cons.mp h with rfl | h
    · exact ⟨a, List.mem_cons_self, b, List.mem_cons_self, rfl⟩
    · obtain ⟨x, hx, y, hy, e⟩ := mem_zipWith h
      exact ⟨x, List.mem_cons_of_mem _ hx, y, List.mem_cons_of_mem _ hy, e⟩
theorem DOK.sok {L M : Nat} {a b : List Rat} (h : DOK L M a b) : SOK L M (prodR a b) := by
  refine ⟨h.l0, h.l1, h.m1, ?_, fun c hc => ?_⟩
  · rw [prodR, List.length_zipWith]
    exact Nat.le_trans (Nat.min_le_left _ _) h.len
  · obtain ⟨x, hx, y, hy, rfl⟩ := mem_zipWith hc
    exact h.rk x hx y hy
theorem DOK.of {L M K N : Nat} {a b : List Rat} (l0 : 0 < L) (k0 : 0 < K) (ha : ∀ x ∈ a, RK L M x) (hb : ∀ y ∈ b, RK K N y) (hl : L < 2 ^ 1500) (hk : K < 2 ^ 1500) (hm : M < 2 ^ 1500) (hn : N < 2 ^ 1500) (len : a.length ≤ 100) : DOK (L * K) (M * N) a b := by
  have p : 2 ^ 1500 * 2 ^ 1500 = 2 ^ 3000 := by rw [← Nat.pow_add]
  have u : 2 ^ 1500 ≤ 2 ^ 3900 := sm_pow (by decide)
  refine ⟨Nat.mul_pos l0 k0, ?_, ?_, len, fun x hx => (ha x hx).sm l0 (by omega) (by omega), fun x hx => (hb x hx).sm k0 (by omega) (by omega), fun x hx y hy => (ha x hx).mul (hb y hy)⟩
  · rw [← p]; exact Nat.mul_lt_mul'' hl hk
  · rw [← p]; exact Nat.mul_lt_mul'' hm hn
theorem DOK.dot {L M : Nat} {a b : List Rat} (h : DOK L M a b) : RK L (M * 100) (dotR a b) := h.sok.sum.mono (Nat.mul_le_mul_left _ h.sok.len)
theorem DOK.dotSm {L M : Nat} {a b : List Rat} (h : DOK L M a b) : Sm 3900 (dotR a b) := sm_of_rk h.sok.sum h.l0 h.l1 h.m1 h.sok.len
theorem lc_on {α : Type} {bind : D → Eng.Env → Option Eng.Env} {cond : Eng.Env → Option (Bool × Eng.Env)} {elt : Eng.Env → Option (Val × Eng.Env)} {own : List Nat} {ρ : Eng.Env} {f : α → D} {g : α → D} : ∀ {as : List α}, (∀ a ∈ as, ∃ ρ1 ρ2 v ρ3, bind (f a) ρ = some ρ1 ∧ cond ρ1 = some (true, ρ2) ∧ elt ρ2 = some (v, ρ3) ∧ v.dat = g a ∧ wipeE ρ3 own = ρ) →
    compLoop bind cond elt own (as.map f) ρ = some (as.map g, ρ)
  | [], _ => rfl
  | a :: as, h => by
    obtain ⟨ρ1, ρ2, v, ρ3, h1, h2, h3, h4, h5⟩ := h a List.mem_cons_self
    have ih := lc_on (as := as) fun u hu => h u (List.mem_cons_of_mem _ hu)
    rw [List.map_cons, List.map_cons]
    unfold compLoop
    rw [h1, Option.bind_some, h2, Option.bind_some]
    simp only [if_true]
    rw [h3, Option.bind_some]
    simp only
    rw [h5, ih, h4]
    rfl
/-! ### yields -/
def lvR (w1 : List Rat) (bls : List Int) (i : Nat) : Rat := match bls[i]? with
  | some b => w1.getD b.toNat 0
  | none => 0
def yR (rows : List (List Rat)) (bls : List Int) (w0 w1 : List Rat) (i : Nat) : Rat := dotR (rows.getD i []) w0 + lvR w1 bls i
def yieldsR (rows : List (List Rat)) (bls : List Int) (w0 w1 : List Rat) : List Rat := (List.range rows.length).map (yR rows bls w0 w1)
/-- the level's place among so many -/
def indR (lev b : Nat) : List Rat := (List.range lev).map fun to => if to = b then 1 else 0
theorem ind_sum (b : Nat) : ∀ (w : List Rat) (k : Nat) (s : Rat), sumR s (prodR ((List.range' k w.length).map fun to => if to = b then (1 : Rat) else 0) w) = s + (if k ≤ b then w.getD (b - k) 0 else 0)
  | [], k, s => by
    simp only [List.length_nil, List.range'_zero, List.map_nil, prodR, List.zipWith_nil_left, sumR, List.foldl_nil, List.getD_nil]
    split <;> rw [Rat.add_zero]
  | x :: w, k, s => by
    rw [List.length_cons, List.range'_succ, List.map_cons, prodR, List.zipWith_cons_cons, sumR_cons]
    have ih := ind_sum b w (k + 1) (s + (if k = b then 1 else 0) * x)
    unfold prodR at ih
    rw [ih]
    by_cases h1 : k = b
    · subst h1
      rw [if_pos rfl, if_neg (by omega), if_pos (Nat.le_refl _), Nat.sub_self, Rat.one_mul, Rat.add_zero]
      rfl
    · rw [if_neg h1, Rat.zero_mul, Rat.add_zero]
      by_cases h2 : k + 1 ≤ b
      · rw [if_pos h2, if_pos (by omega)]
        have e : b - k = (b - (k + 1)) + 1 := by omega
        rw [e, List.getD_cons_succ]
      · rw [if_neg h2, if_neg (by omega)]
theorem dot_ind (r w0 w1 : List Rat) (b : Nat) (h : r.length = w0.length) : dotR (r ++ indR w1.length b) (w0 ++ w1) = dotR r w0 + w1.getD b 0 := by
  unfold dotR
  have e : prodR (r ++ indR w1.length b) (w0 ++ w1) = prodR r w0 ++ prodR (indR w1.length b) w1 := List.zipWith_append h
  rw [e, sumR_append]
  have := ind_sum b w1 0 (sumR 0 (prodR r w0))
  rw [if_pos (Nat.zero_le _), Nat.sub_zero] at this
  rw [← this, indR, List.range_eq_range']
theorem levN_lt {bls : List Int} : ∀ b ∈ bls, b < levN bls := by
  cases bls with
  | nil => intro b h; simp at h
  | cons n r =>
    have up : ∀ (r : List Int) (n : Int), n ≤ r.foldl max n ∧ ∀ x ∈ r, x ≤ r.foldl max n := by
      intro r
      induction r with
      | nil => intro n; exact ⟨Int.le_refl _, fun x h => by simp at h⟩
      | cons y r ih =>
        intro n
        obtain ⟨h1, h2⟩ := ih (max n y)
        rw [List.foldl_cons]
        refine ⟨by omega, fun x hx => ?_⟩
        rcases List.mem_cons.mp hx with rfl | hx
        · omega
        · exact h2 x hx
    intro b hb
    obtain ⟨h1, h2⟩ := up r n
    simp only [levN]
    rcases List.mem_cons.mp hb with rfl | hb
    · omega
    · have := h2 b hb; omega
/-! ### cells of rows and trials shown -/
theorem PO.rat {q : Rat} (h : Sm 1800 q) : PO 1 2 (rD q) := by
  have u : 2 ^ 1800 < 2 ^ 1900 := Nat.pow_lt_pow_right (by decide) (by decide)
  refine (PO.tuple (d := 0) (n := 0) fun t ht => ?_).mono (by decide) (by simp)
  simp only [List.mem_cons, List.not_mem_nil, or_false] at ht
  rcases ht with rfl | rfl
  · exact PO.int2 (Nat.lt_trans h.1 u)
  · exact PO.int2 (by simpa using Nat.lt_trans h.2 u)
theorem PO.row {r : List Rat} {n : Nat} (hl : r.length * 3 ≤ n) (h : ∀ x ∈ r, Sm 1800 x) : PO 2 n (rowD r) := by
  refine (PO.tuple (d := 1) (n := 2) fun t ht => ?_).mono (by decide) (by rw [List.length_map]; exact hl)
  obtain ⟨x, h1, rfl⟩ := List.mem_map.mp ht
  exact PO.rat (h x h1)
theorem PO.t3 {d n1 n2 n3 : Nat} {x y z : D} (hx : PO d n1 x) (hy : PO d n2 y) (hz : PO d n3 z) : PO (d + 1) (n1 + n2 + n3 + 3) (.tuple [x, y, z]) := by
  have g := PO.tuple (d := d) (n := max n1 (max n2 n3)) (xs := [x, y, z]) fun t ht => by
    simp only [List.mem_cons, List.not_mem_nil, or_false] at ht
    rcases ht with rfl | rfl | rfl
    · exact hx.mono (Nat.le_refl _) (by omega)
    · exact hy.mono (Nat.le_refl _) (by omega)
    · exact hz.mono (Nat.le_refl _) (by omega)
  have h1 := hx.blk
  have h2 := hy.blk
  have h3 := hz.blk
  exact ⟨g.lay, g.show_, g.dep, by simp only [PyData.bulk, PyData.bulkAll]; omega, g.short, g.cps⟩
theorem PO.l2 {d n : Nat} {x y : D} (hx : PO d n x) (hy : PO d n y) : PO (d + 1) (2 * (n + 1)) (.list [x, y]) :=
  (PO.list (d := d) (n := n) (xs := [x, y]) fun t ht => by
    simp only [List.mem_cons, List.not_mem_nil, or_false] at ht
    rcases ht with rfl | rfl <;> assumption)
/-! ### drawn numbers, worlds -/
def M0 : Nat := 1000000 * LB
theorem rk_c {p : Int} {d : Nat} (h : 0 < d ∧ d ≤ 60) (hp : p.natAbs ≤ 1000000) : RK LB M0 (Rat.divInt p d) :=
  RK.of (LB_dvd d h.1 h.2) LB_pos (Nat.mul_le_mul hp (Nat.div_le_self _ _))
theorem rk_t {p q : Int} (h : 0 < q ∧ q ≤ 60 ∧ p.natAbs ≤ 1000000 ∧ Int.gcd p q = 1) : ∃ x, PyData.tuple [.int p, .int q] = rD x ∧ RK LB M0 x := by
  have e := lean_rD (p := p) h.1
  rw [h.2.2.2] at e
  refine ⟨Rat.divInt p q, by simpa [Int.fdiv_one] using e, ?_⟩
  have : q = (q.toNat : Int) := by omega
  rw [this]
  exact rk_c ⟨by omega, by omega⟩ h.2.2.1
/-- what a world of a drawn trial is -/
structure WK (few : Nat) (bls : List Int) (w0 w1 : List Rat) : Prop where
  l0 : w0.length = few
  l1 : (w1.length : Int) = levN bls
  r0 : ∀ x ∈ w0, RK LB M0 x
  r1 : ∀ x ∈ w1, RK LB M0 x
theorem lb1500 : LB < 2 ^ 1500 := by decide +kernel
theorem mb1500 : MB < 2 ^ 1500 := by decide +kernel
theorem m01500 : M0 < 2 ^ 1500 := by decide +kernel
theorem row_dok {few most : Nat} {rows : List (List Rat)} {sps : List Rat} {bls : List Int} {w0 : List Rat} (h : DT few most rows sps bls) (hw : ∀ x ∈ w0, RK LB M0 x) {r : List Rat} (hr : r ∈ rows) : DOK (LB * LB) (MB * M0) r w0 :=
  DOK.of LB_pos LB_pos (h.row r hr).2 hw lb1500 lb1500 mb1500 m01500 (by have := (h.row r hr).1; have := h.few5; omega)
/-! ### lots -/
def lotD (l : List Nat) : D := .tuple (l.map fun k : Nat => PyData.int (k : Int))
structure LK (many : Nat) (l : List Nat) : Prop where
  ne : l ≠ []
  asc : l.Pairwise (fun a b => a < b)
  lt : ∀ k ∈ l, k < many
theorem LK.len {many : Nat} {l : List Nat} (h : LK many l) : l.length ≤ many := by
  have ge : ∀ j (hj : j < l.length), j ≤ l[j] := by
    intro j
    induction j with
    | zero => exact fun _ => Nat.zero_le _
    | succ j ih =>
      intro hj
      have h1 := ih (by omega)
      have h2 := (List.pairwise_iff_getElem.mp h.asc) j (j + 1) (by omega) hj (by omega)
      omega
  rcases Nat.eq_zero_or_pos l.length with h0 | h0
  · omega
  · have h1 := ge (l.length - 1) (by omega)
    have h2 := h.lt _ (List.getElem_mem (show l.length - 1 < l.length by omega))
    omega
def pickL {α : Type} (l : List Nat) (xs : List α) (d : α) : List α := l.map fun k => xs.getD k d
theorem pickL_mem {α : Type} {l : List Nat} {xs : List α} {d x : α} (h : ∀ k ∈ l, k < xs.length) (hx : x ∈ pickL l xs d) : x ∈ xs := by
  obtain ⟨k, hk, rfl⟩ := List.mem_map.mp hx
  have := h k hk
  rw [List.getD_eq_getElem?_getD, List.getElem?_eq_getElem this]
  exact List.getElem_mem this
theorem getD_at {α : Type} {xs : List α} {k : Nat} (d : α) (h : k < xs.length) : xs.getD k d = xs[k] := by
  rw [List.getD_eq_getElem?_getD, List.getElem?_eq_getElem h]; rfl
/-- the blocks of some plots -/
def pickB (l : List Nat) (bls : List Int) : List Int := if bls = [] then [] else pickL l bls 0
theorem few_DT {few most : Nat} {rows : List (List Rat)} {sps : List Rat} {bls : List Int} (h : DT few most rows sps bls) {l : List Nat} (k : LK rows.length l) : DT few most (pickL l rows []) (pickL l sps 0) (pickB l bls) := by
  have kl := k.len
  have k0 : 0 < l.length := List.length_pos_iff.mpr k.ne
  have m1 := h.many1
  refine ⟨h.few0, h.few5, by rw [pickL, List.length_map]; exact k0, by rw [pickL, List.length_map]; omega, fun r hr => h.row r (pickL_mem k.lt hr), by simp [pickL], fun s hs => h.sp s (pickL_mem (by rw [h.spl]; exact k.lt) hs), ?_⟩
  rcases h.bl with rfl | ⟨h1, h2⟩
  · exact .inl rfl
  · by_cases hb : bls = []
    · exact .inl (by rw [pickB, if_pos hb])
    · rw [pickB, if_neg hb]
      exact .inr ⟨by simp [pickL], fun b hb2 => h2 b (pickL_mem (by rw [h1]; exact k.lt) hb2)⟩
theorem atI_map {α : Type} {xs : List α} {f : α → D} {k : Nat} (d : α) (h : k < xs.length) : atI (xs.map f) (k : Int) = some (f (xs.getD k d)) := by
  rw [atI_nat (by rw [List.length_map]; exact h), List.getElem_map, getD_at d h]
theorem numbered_drop (l : List Nat) (j : Nat) (h : j < l.length) : numbered j ((l.drop j).map fun k : Nat => PyData.int (k : Int)) = .tuple [.int (j : Int), .int (l[j] : Int)] :: numbered (j + 1) ((l.drop (j + 1)).map fun k : Nat => PyData.int (k : Int)) := by
  rw [List.drop_eq_getElem_cons h, List.map_cons, numbered]
/-! ### loops by places -/
theorem for_idx {bind : D → Eng.Env → Option Eng.Env} {body : Eng.Env → Option Out} {Q : Out → Prop} (ds : List D) (P : Nat → Eng.Env → Prop) (step : ∀ (j : Nat) (hj : j < ds.length) (ρ : Eng.Env), P j ρ → ∃ ρ1 o, bind ds[j] ρ = some ρ1 ∧ body ρ1 = some o ∧ (match o with
    | .nx ρ2 => P (j + 1) ρ2
    | .ct ρ2 => P (j + 1) ρ2
    | .bk ρ2 => Q (.nx ρ2)
    | .rt v ρ2 => Q (.rt v ρ2))) (fin : ∀ ρ, P ds.length ρ → Q (.nx ρ)) (ρ : Eng.Env) (h : P 0 ρ) : ∃ o, forLoop bind body ds ρ = some o ∧ Q o := by
  refine for_inv (fun us ρ => ∃ j, j ≤ ds.length ∧ us = ds.drop j ∧ P j ρ) ?_ ?_ ds ρ ⟨0, Nat.zero_le _, rfl, h⟩
  · rintro u us ρ ⟨j, hj, hu, hp⟩
    have hj2 : j < ds.length := by
      refine Nat.lt_of_not_le fun hge => ?_
      rw [List.drop_eq_nil_of_le hge] at hu
      cases hu
    rw [List.drop_eq_getElem_cons hj2] at hu
    injection hu with h1 h2
    subst h1
    obtain ⟨ρ1, o, h3, h4, h5⟩ := step j hj2 ρ hp
    refine ⟨ρ1, o, h3, h4, ?_⟩
    cases o with
    | nx ρ2 => exact ⟨j + 1, hj2, h2, h5⟩
    | ct ρ2 => exact ⟨j + 1, hj2, h2, h5⟩
    | bk ρ2 => exact h5
    | rt v ρ2 => exact h5
  · rintro ρ ⟨j, hj, hu, hp⟩
    have hj2 : j = ds.length := by
      have := congrArg List.length hu
      rw [List.length_drop] at this
      simp at this
      omega
    subst hj2
    exact fin ρ hp
theorem upTo_get {lo : Int} {n j : Nat} (h : j < (Eng.upTo lo n).length) : (Eng.upTo lo n)[j] = .int (lo + (j : Int)) := by
  simp [Eng.upTo]
theorem upTo_get0 {n j : Nat} (h : j < (Eng.upTo 0 n).length) : (Eng.upTo 0 n)[j] = .int (j : Int) := by
  rw [upTo_get, Int.zero_add]
theorem numbered_get2 : ∀ {xs : List D} {n j : Nat} (h : j < (Eng.numbered n xs).length), (Eng.numbered n xs)[j] = .tuple [.int ((n + j : Nat) : Int), xs[j]'(by rw [numbered_len] at h; exact h)]
  | [], n, j, h => by simp [Eng.numbered] at h
  | x :: xs, n, 0, h => by simp [Eng.numbered]
  | x :: xs, n, j + 1, h => by
    simp only [Eng.numbered, List.getElem_cons_succ]
    rw [numbered_get2]
    have e : n + 1 + j = n + (j + 1) := by omega
    rw [e]
theorem ixN_nat {n k : Nat} (h : k < n) : ixN n (k : Int) = some k := by
  unfold ixN
  rw [if_pos (by omega), if_pos (by omega), Int.toNat_natCast]
theorem repl_one {α : Type} (x : α) : ∀ k : Nat, (List.replicate k [x]).flatten = List.replicate k x
  | 0 => rfl
  | k + 1 => by rw [List.replicate_succ, List.replicate_succ, List.flatten_cons, repl_one x k]; rfl
theorem upTo_eq (k : Nat) : Eng.upTo 0 k = (List.range k).map fun k : Nat => PyData.int (k : Int) := by
  unfold Eng.upTo
  congr 1
  funext k
  rw [Int.zero_add]
/-! ### rows told with their blocks -/
def levK (bls : List Int) : Nat := (levN bls).toNat
def longAt (rows : List (List Rat)) (bls : List Int) (i : Nat) : List Rat := rows.getD i [] ++ indR (levK bls) (bls.getD i 0).toNat
def longR (rows : List (List Rat)) (bls : List Int) (k : Nat) : List (List Rat) := (List.range k).map (longAt rows bls)
theorem long_rk {few most : Nat} {rows : List (List Rat)} {sps : List Rat} {bls : List Int} (h : DT few most rows sps bls) {i : Nat} (hi : i < rows.length) : ∀ x ∈ longAt rows bls i, RK LB MB x := by
  intro x hx
  rcases List.mem_append.mp hx with m | m
  · rw [getD_at _ hi] at m
    exact (h.row _ (List.getElem_mem hi)).2 x m
  · obtain ⟨k, _, rfl⟩ := List.mem_map.mp m
    split
    · exact ⟨(LB : Int), by
        rw [Rat.mkRat_eq_div]
        exact (Rat.div_def _ _ ▸ (Rat.mul_inv_cancel _ (by decide +kernel))).symm, by decide +kernel⟩
    · exact RK.zero
theorem long_dot {few most : Nat} {rows : List (List Rat)} {sps : List Rat} {bls : List Int} {w0 w1 : List Rat} (h : DT few most rows sps bls) (hw : WK few bls w0 w1) {i : Nat} (hi : i < rows.length) : dotR (longAt rows bls i) (w0 ++ w1) = yR rows bls w0 w1 i := by
  have hl : levK bls = w1.length := by
    have := hw.l1
    unfold levK; omega
  have hr : (rows.getD i []).length = w0.length := by rw [getD_at _ hi, (h.row _ (List.getElem_mem hi)).1, hw.l0]
  unfold longAt yR
  rw [hl, dot_ind _ _ _ _ hr]
  congr 1
  unfold lvR
  rcases h.bl with rfl | ⟨h1, h2⟩
  · have : w1.length = 0 := by
      have := hw.l1
      simp only [levN] at this
      omega
    rw [List.eq_nil_of_length_eq_zero this]
    simp
  · have hib : i < bls.length := by omega
    rw [List.getElem?_eq_getElem hib, getD_at _ hib]
theorem long_at {rows : List (List Rat)} {bls : List Int} {k a : Nat} (h : a < k) : atI ((longR rows bls k).map rowD) (a : Int) = some (rowD (longAt rows bls a)) := by
  have hl : (longR rows bls k).length = k := by rw [longR, List.length_map, List.length_range]
  rw [atI_map [] (by rw [hl]; exact h), getD_at [] (by rw [hl]; exact h)]
  congr 2
  unfold longR
  rw [List.getElem_map, List.getElem_range]
theorem long_len {few most : Nat} {rows : List (List Rat)} {sps : List Rat} {bls : List Int} (h : DT few most rows sps bls) {i : Nat} (hi : i < rows.length) : (longAt rows bls i).length = few + levK bls := by
  unfold longAt indR
  rw [List.length_append, getD_at _ hi, (h.row _ (List.getElem_mem hi)).1, List.length_map, List.length_range]
theorem rk_sm {M k : Nat} {x : Rat} (h : RK LB M x) (hM : M < 2 ^ 1500) (hk : 1500 ≤ k) : Sm k x := h.sm LB_pos (Nat.lt_of_lt_of_le lb1500 (sm_pow hk)) (Nat.lt_of_lt_of_le hM (sm_pow hk))
def MQ : Nat := M0 * (2 * MB)
theorem mq1500 : 10 * MQ < 2 ^ 1500 := by decide +kernel
theorem lb2 : LB * LB < 2 ^ 1500 := by decide +kernel
theorem lb2_pos : 0 < LB * LB := Nat.mul_pos LB_pos LB_pos
theorem rk2_sm {M k : Nat} {x : Rat} (h : RK (LB * LB) M x) (hM : M < 2 ^ 1500) (hk : 1500 ≤ k) : Sm k x := h.sm lb2_pos (Nat.lt_of_lt_of_le lb2 (sm_pow hk)) (Nat.lt_of_lt_of_le hM (sm_pow hk))
theorem levN_le {bls cs : List Int} (h : ∀ b ∈ cs, b ∈ bls) (h0 : 0 ≤ levN bls) : levN cs ≤ levN bls := by
  cases cs with
  | nil => exact h0
  | cons n r =>
    have up : ∀ (r : List Int) (n m : Int), n ≤ m → (∀ x ∈ r, x ≤ m) → r.foldl max n ≤ m := by
      intro r
      induction r with
      | nil => exact fun n m h _ => h
      | cons y r ih =>
        intro n m h1 h2
        exact ih (max n y) m (by have := h2 y List.mem_cons_self; omega) fun x hx => h2 x (List.mem_cons_of_mem _ hx)
    have := up r n (levN bls - 1) (by have := levN_lt n (h n List.mem_cons_self); omega) fun x hx => by
      have := levN_lt x (h x (List.mem_cons_of_mem _ hx)); omega
    show r.foldl max n + 1 ≤ levN bls
    omega
theorem pickB_mem {l : List Nat} {bls : List Int} (h : bls ≠ [] → ∀ k ∈ l, k < bls.length) {b : Int} (hb : b ∈ pickB l bls) : b ∈ bls := by
  unfold pickB at hb
  split at hb
  · simp at hb
  · rename_i hne
    exact pickL_mem (h hne) hb
theorem few_WK {few most : Nat} {rows : List (List Rat)} {sps : List Rat} {bls : List Int} (h : DT few most rows sps bls) {l : List Nat} (k : LK rows.length l) {w0 w1 : List Rat} (hw : WK few bls w0 w1) : WK few (pickB l bls) w0 (w1.take (levK (pickB l bls))) := by
  have hk : bls ≠ [] → ∀ j ∈ l, j < bls.length := fun hne => by
    rcases h.bl with e | e
    · exact absurd e hne
    · rw [e.1]; exact k.lt
  have lb := levN_bound h
  have le := levN_le (bls := bls) (cs := pickB l bls) (fun b hb => pickB_mem hk hb) lb.1
  have lb2 := levN_bound (few_DT h k)
  refine ⟨hw.l0, ?_, hw.r0, fun x hx => hw.r1 x (List.mem_of_mem_take hx)⟩
  have := hw.l1
  rw [List.length_take]
  unfold levK
  omega
theorem few_yields {few most : Nat} {rows : List (List Rat)} {sps : List Rat} {bls : List Int} (h : DT few most rows sps bls) {l : List Nat} (k : LK rows.length l) {w0 w1 : List Rat} (hw : WK few bls w0 w1) : yieldsR (pickL l rows []) (pickB l bls) w0 (w1.take (levK (pickB l bls))) = pickL l (yieldsR rows bls w0 w1) 0 := by
  have ly : (yieldsR rows bls w0 w1).length = rows.length := by rw [yieldsR, List.length_map, List.length_range]
  have lp : (pickL l rows []).length = l.length := by rw [pickL, List.length_map]
  have e1 : yieldsR (pickL l rows []) (pickB l bls) w0 (w1.take (levK (pickB l bls))) = (List.range l.length).map (yR (pickL l rows []) (pickB l bls) w0 (w1.take (levK (pickB l bls)))) := by rw [yieldsR, lp]
  rw [e1]
  have e2 : pickL l (yieldsR rows bls w0 w1) 0 = (List.range l.length).map fun i => yR rows bls w0 w1 (l.getD i 0) := by
    refine List.ext_getElem (by simp [pickL]) fun i h1 h2 => ?_
    have hi : i < l.length := by simpa [pickL] using h1
    have hk := k.lt _ (List.getElem_mem hi)
    simp only [pickL, List.getElem_map, List.getElem_range]
    rw [getD_at 0 hi, getD_at 0 (by rw [ly]; exact hk)]
    simp only [yieldsR, List.getElem_map, List.getElem_range]
  rw [e2]
  refine List.map_congr_left fun i hi0 => ?_
  have hi : i < l.length := List.mem_range.mp hi0
  have hk := k.lt _ (List.getElem_mem hi)
  rw [getD_at 0 hi]
  unfold yR
  congr 1
  · congr 1
    rw [getD_at _ (by rw [lp]; exact hi)]
    simp only [pickL, List.getElem_map]
  · unfold lvR
    rcases h.bl with rfl | ⟨hb1, hb2⟩
    · simp [pickB]
    · have hne : bls ≠ [] := fun e => by rw [e] at hb1; simp at hb1; omega
      have hkb : l[i] < bls.length := by omega
      have e1 : (pickB l bls)[i]? = some bls[l[i]] := by
        rw [pickB, if_neg hne, pickL, List.getElem?_map, List.getElem?_eq_getElem hi]
        simp only [Option.map_some]
        rw [getD_at _ hkb]
      rw [e1, List.getElem?_eq_getElem hkb]
      simp only
      have b0 := hb2 _ (List.getElem_mem hkb)
      have b1 := levN_lt (bls := pickB l bls) bls[l[i]] (List.mem_iff_getElem?.mpr ⟨i, e1⟩)
      have lt : bls[l[i]].toNat < levK (pickB l bls) := by unfold levK; omega
      rw [List.getD_eq_getElem?_getD, List.getD_eq_getElem?_getD, List.getElem?_take_of_lt lt]
theorem yields_sm {few most : Nat} {rows : List (List Rat)} {sps : List Rat} {bls : List Int} (h : DT few most rows sps bls) {w0 w1 : List Rat} (hw : WK few bls w0 w1) : ∀ x ∈ yieldsR rows bls w0 w1, Sm 1800 x := by
  intro x hx
  obtain ⟨i, hi, rfl⟩ := List.mem_map.mp hx
  rw [List.mem_range] at hi
  have d := (row_dok h hw.r0 (List.getElem_mem hi)).dot
  have e : RK (LB * LB) (M0 * LB) (lvR w1 bls i) := by
    unfold lvR
    split
    · rename_i b hb
      rw [List.getD_eq_getElem?_getD]
      cases c : w1[b.toNat]? with
      | none => exact RK.zero
      | some y => exact (hw.r1 y (List.mem_of_getElem? c)).scale LB_pos
    · exact RK.zero
  unfold yR
  rw [getD_at _ hi]
  exact (d.add lb2_pos e).sm lb2_pos (Nat.lt_of_lt_of_le lb2 (sm_pow (by decide))) (Nat.lt_of_lt_of_le (show MB * M0 * 100 + M0 * LB < 2 ^ 1500 by decide +kernel) (sm_pow (by decide)))
theorem asked_dok {few : Nat} {q w0 : List Rat} (lq : q.length = few) (hf : few ≤ 5) (gq : ∀ x ∈ q, RK (LB * LB) (5 * MQ) x) (hw : ∀ x ∈ w0, RK LB M0 x) : DOK (LB * LB * LB) (5 * MQ * M0) q w0 :=
  DOK.of lb2_pos LB_pos gq hw lb2 lb1500 (by have := mq1500; omega) m01500 (by omega)
theorem dot_sm {few : Nat} {q w0 : List Rat} (lq : q.length = few) (hf : few ≤ 5) (gq : ∀ x ∈ q, RK (LB * LB) (5 * MQ) x) (hw : ∀ x ∈ w0, RK LB M0 x) : Sm 1800 (dotR q w0) :=
  (asked_dok lq hf gq hw).dot.sm (Nat.mul_pos lb2_pos LB_pos) (Nat.lt_of_lt_of_le (show LB * LB * LB < 2 ^ 1500 by decide +kernel) (sm_pow (by decide))) (Nat.lt_of_lt_of_le (show 5 * MQ * M0 * 100 < 2 ^ 1500 by decide +kernel) (sm_pow (by decide)))
theorem PO.trial {few most : Nat} {rows : List (List Rat)} {sps : List Rat} {bls : List Int} (h : DT few most rows sps bls) (hm : most ≤ 10) : PO 4 230 (trialD rows sps bls) := by
  have m1 := h.many1
  have f5 := h.few5
  have hr : PO 3 (rows.length * (15 + 1)) (.tuple (rows.map rowD)) := by
    refine (PO.tuple (d := 2) (n := 15) fun t ht => ?_).mono (Nat.le_refl _) (by rw [List.length_map]; exact Nat.le_refl _)
    obtain ⟨r, h1, rfl⟩ := List.mem_map.mp ht
    exact PO.row (by have := (h.row r h1).1; omega) fun x hx => rk_sm ((h.row r h1).2 x hx) mb1500 (by decide)
  have hs : PO 2 30 (rowD sps) := PO.row (by have := h.spl; omega) fun x hx => (h.sp x hx).2.sm (by decide) (Nat.lt_of_lt_of_le (show 6 < 2 ^ 10 by decide) (sm_pow (by decide))) (Nat.lt_of_lt_of_le (show 30 < 2 ^ 10 by decide) (sm_pow (by decide)))
  have hb : PO 1 10 (blD bls) := by
    have hb2 : bls.length ≤ 10 ∧ ∀ b ∈ bls, 0 ≤ b ∧ b ≤ 4 := by
      rcases h.bl with rfl | ⟨h1, h2⟩
      · exact ⟨by simp, fun b h => by simp at h⟩
      · exact ⟨by omega, h2⟩
    refine (PO.tuple (d := 0) (n := 0) fun t ht => ?_).mono (Nat.le_refl _) (by rw [List.length_map]; omega)
    obtain ⟨b, h1, rfl⟩ := List.mem_map.mp ht
    have := hb2.2 b h1
    exact PO.int2 (Nat.lt_of_lt_of_le (show b.natAbs < 2 ^ 10 by omega) (sm_pow (by decide)))
  exact (PO.t3 (d := 3) (hr.mono (by decide) (Nat.le_refl _)) (hs.mono (by decide) (Nat.le_refl _)) (hb.mono (by decide) (Nat.le_refl _))).mono (by decide) (by omega)
end Eng
set_option Elab.async false
set_option linter.all false
set_option maxRecDepth 100000
set_option maxHeartbeats 0
/-! the defs of the law in the own language; printed by wip/printer.py -/
namespace LaK03
open PySem PySem.Spec PyProof.Rows L2 Eng
def top (i : Nat) : Stmt := (PySem.Challenge.pw_trialground_k03_whole_yields_answers_plo).main.body.getD i (.Pass ⟨0, 0, 0, 0⟩)
/-- is_whole -/
def f0 : Fd := ⟨"is_whole", ["value"], ["value"], [],
  (.cons (.ret (.and (.prim (.isa ["int"]) (.cons (.var 0) .nil)) (.not (.prim (.isa ["bool"]) (.cons (.var 0) .nil))))) .nil)⟩
/-- is_between -/
def f1 : Fd := ⟨"is_between", ["value", "low", "high"], ["value", "low", "high"], [],
  (.cons (.ret (.and (.fn 0 (.cons (.var 0) .nil)) (.chain .le .le (.cons (.var 1) (.cons (.var 0) .nil)) (.cons (.var 2) .nil)))) .nil)⟩
/-- is_tuple_of -/
def f2 : Fd := ⟨"is_tuple_of", ["value", "many"], ["value", "many"], [],
  (.cons (.ret (.and (.prim (.isa ["tuple"]) (.cons (.var 0) .nil)) (.prim .eq (.cons (.prim .len (.cons (.var 0) .nil)) (.cons (.var 1) .nil))))) .nil)⟩
def i3_0 : MS := .ifS (.or (.not (.fn 2 (.cons (.var 0) (.cons (.k (.int 2)) .nil)))) (.or (.not (.fn 0 (.cons (.prim .idx (.cons (.var 0) (.cons (.k (.int 0)) .nil))) .nil))) (.not (.fn 0 (.cons (.prim .idx (.cons (.var 0) (.cons (.k (.int 1)) .nil))) .nil))))) (.cons (.ret (.k (.bl false))) .nil) .nil
/-- is_ratio -/
def f3 : Fd := ⟨"is_ratio", ["value"], ["value"], [],
  (.cons i3_0 (.cons (.ret (.and (.prim .gt (.cons (.prim .idx (.cons (.var 0) (.cons (.k (.int 1)) .nil))) (.cons (.k (.int 0)) .nil))) (.prim .eq (.cons (.prim .gcd (.cons (.prim .idx (.cons (.var 0) (.cons (.k (.int 0)) .nil))) (.cons (.prim .idx (.cons (.var 0) (.cons (.k (.int 1)) .nil))) .nil))) (.cons (.k (.int 1)) .nil))))) .nil))⟩
/-- ratio -/
def f4 : Fd := ⟨"ratio", ["top", "low"], ["top", "low", "part"], [],
  (.cons (.asg 2 (.ite (.prim .gt (.cons (.var 1) (.cons (.k (.int 0)) .nil))) (.prim .gcd (.cons (.var 0) (.cons (.var 1) .nil))) (.prim .neg (.cons (.prim .gcd (.cons (.var 0) (.cons (.var 1) .nil))) .nil)))) (.cons (.ret (.tup (.cons (.prim .fdiv (.cons (.var 0) (.cons (.var 2) .nil))) (.cons (.prim .fdiv (.cons (.var 1) (.cons (.var 2) .nil))) .nil)))) .nil))⟩
/-- plus -/
def f5 : Fd := ⟨"plus", ["one", "two"], ["one", "two"], [],
  (.cons (.ret (.fn 4 (.cons (.prim .add (.cons (.prim .mul (.cons (.prim .idx (.cons (.var 0) (.cons (.k (.int 0)) .nil))) (.cons (.prim .idx (.cons (.var 1) (.cons (.k (.int 1)) .nil))) .nil))) (.cons (.prim .mul (.cons (.prim .idx (.cons (.var 1) (.cons (.k (.int 0)) .nil))) (.cons (.prim .idx (.cons (.var 0) (.cons (.k (.int 1)) .nil))) .nil))) .nil))) (.cons (.prim .mul (.cons (.prim .idx (.cons (.var 0) (.cons (.k (.int 1)) .nil))) (.cons (.prim .idx (.cons (.var 1) (.cons (.k (.int 1)) .nil))) .nil))) .nil)))) .nil)⟩
/-- times -/
def f6 : Fd := ⟨"times", ["one", "two"], ["one", "two"], [],
  (.cons (.ret (.fn 4 (.cons (.prim .mul (.cons (.prim .idx (.cons (.var 0) (.cons (.k (.int 0)) .nil))) (.cons (.prim .idx (.cons (.var 1) (.cons (.k (.int 0)) .nil))) .nil))) (.cons (.prim .mul (.cons (.prim .idx (.cons (.var 0) (.cons (.k (.int 1)) .nil))) (.cons (.prim .idx (.cons (.var 1) (.cons (.k (.int 1)) .nil))) .nil))) .nil)))) .nil)⟩
def b7_0 : MSs := (.cons (.asg 1 (.fn 5 (.cons (.var 1) (.cons (.var 2) .nil)))) .nil)
/-- total -/
def f7 : Fd := ⟨"total", ["fractions"], ["fractions", "found", "each"], [],
  (.cons (.asg 1 (.glob 1)) (.cons (.forS (.nm 2) (.val (.var 0)) b7_0) (.cons (.retV 1) .nil)))⟩
/-- dot -/
def f8 : Fd := ⟨"dot", ["one", "two"], ["one", "two", "here", "there"], [],
  (.cons (.ret (.fn 7 (.cons (.comp (.fn 6 (.cons (.var 2) (.cons (.var 3) .nil))) (.tp [(.nm 2), (.nm 3)]) (.zip (.var 0) (.var 1)) .nil [2, 3]) .nil))) .nil)⟩
/-- is_row -/
def f9 : Fd := ⟨"is_row", ["value", "many"], ["value", "many", "each"], [],
  (.cons (.ret (.and (.fn 2 (.cons (.var 0) (.cons (.var 1) .nil))) (.prim .all (.cons (.comp (.fn 3 (.cons (.var 2) .nil)) (.nm 2) (.val (.var 0)) .nil [2]) .nil)))) .nil)⟩
def i10_0 : MS := .ifS (.not (.prim (.isa ["tuple"]) (.cons (.var 0) .nil))) (.cons (.ret (.k (.bl false))) .nil) .nil
/-- are_blocks -/
def f10 : Fd := ⟨"are_blocks", ["value", "many"], ["value", "many", "each"], [],
  (.cons i10_0 (.cons (.ret (.or (.prim .eq (.cons (.var 0) (.cons (.tup .nil) .nil))) (.and (.prim .eq (.cons (.prim .len (.cons (.var 0) .nil)) (.cons (.var 1) .nil))) (.prim .all (.cons (.comp (.fn 1 (.cons (.var 2) (.cons (.k (.int 0)) (.cons (.glob 2) .nil)))) (.nm 2) (.val (.var 0)) .nil [2]) .nil))))) .nil))⟩
def i11_0 : MS := .ifS (.or (.not (.prim (.isa ["tuple"]) (.cons (.var 0) .nil))) (.or (.not (.chain .le .le (.cons (.k (.int 1)) (.cons (.prim .len (.cons (.var 0) .nil)) .nil)) (.cons (.glob 4) .nil))) (.not (.prim (.isa ["tuple"]) (.cons (.prim .idx (.cons (.var 0) (.cons (.k (.int 0)) .nil))) .nil))))) (.cons (.ret (.k (.bl false))) .nil) .nil
/-- are_plots -/
def f11 : Fd := ⟨"are_plots", ["value"], ["value", "row"], [],
  (.cons i11_0 (.cons (.ret (.and (.chain .le .le (.cons (.k (.int 1)) (.cons (.prim .len (.cons (.prim .idx (.cons (.var 0) (.cons (.k (.int 0)) .nil))) .nil)) .nil)) (.cons (.glob 3) .nil)) (.prim .all (.cons (.comp (.fn 9 (.cons (.var 1) (.cons (.prim .len (.cons (.prim .idx (.cons (.var 0) (.cons (.k (.int 0)) .nil))) .nil)) .nil))) (.nm 1) (.val (.var 0)) .nil [1]) .nil)))) .nil))⟩
def i12_0 : MS := .ifS (.or (.not (.fn 2 (.cons (.var 0) (.cons (.k (.int 3)) .nil)))) (.or (.not (.fn 11 (.cons (.prim .idx (.cons (.var 0) (.cons (.k (.int 0)) .nil))) .nil))) (.not (.fn 9 (.cons (.prim .idx (.cons (.var 0) (.cons (.k (.int 1)) .nil))) (.cons (.prim .len (.cons (.prim .idx (.cons (.var 0) (.cons (.k (.int 0)) .nil))) .nil)) .nil)))))) (.cons (.ret (.k (.bl false))) .nil) .nil
/-- is_trial_by -/
def f12 : Fd := ⟨"is_trial_by", ["value"], ["value", "each"], [],
  (.cons i12_0 (.cons (.ret (.and (.prim .all (.cons (.comp (.prim .gt (.cons (.prim .idx (.cons (.var 1) (.cons (.k (.int 0)) .nil))) (.cons (.k (.int 0)) .nil))) (.nm 1) (.val (.prim .idx (.cons (.var 0) (.cons (.k (.int 1)) .nil)))) .nil [1]) .nil)) (.fn 10 (.cons (.prim .idx (.cons (.var 0) (.cons (.k (.int 2)) .nil))) (.cons (.prim .len (.cons (.prim .idx (.cons (.var 0) (.cons (.k (.int 0)) .nil))) .nil)) .nil))))) .nil))⟩
/-- many_unknowns -/
def f13 : Fd := ⟨"many_unknowns", ["trial"], ["trial"], [],
  (.cons (.ret (.prim .len (.cons (.prim .idx (.cons (.prim .idx (.cons (.var 0) (.cons (.k (.int 0)) .nil))) (.cons (.k (.int 0)) .nil))) .nil))) .nil)⟩
/-- many_plots -/
def f14 : Fd := ⟨"many_plots", ["trial"], ["trial"], [],
  (.cons (.ret (.prim .len (.cons (.prim .idx (.cons (.var 0) (.cons (.k (.int 0)) .nil))) .nil))) .nil)⟩
/-- many_levels -/
def f15 : Fd := ⟨"many_levels", ["trial"], ["trial"], [],
  (.cons (.ret (.ite (.prim .ne (.cons (.prim .idx (.cons (.var 0) (.cons (.k (.int 2)) .nil))) (.cons (.tup .nil) .nil))) (.prim .add (.cons (.prim .maxL (.cons (.prim .idx (.cons (.var 0) (.cons (.k (.int 2)) .nil))) .nil)) (.cons (.k (.int 1)) .nil))) (.k (.int 0)))) .nil)⟩
def i16_0 : MS := .ifS (.not (.fn 2 (.cons (.var 1) (.cons (.k (.int 2)) .nil)))) (.cons (.ret (.k (.bl false))) .nil) .nil
/-- is_world_by -/
def f16 : Fd := ⟨"is_world_by", ["trial", "value"], ["trial", "value"], [],
  (.cons i16_0 (.cons (.ret (.and (.fn 9 (.cons (.prim .idx (.cons (.var 1) (.cons (.k (.int 0)) .nil))) (.cons (.fn 13 (.cons (.var 0) .nil)) .nil))) (.fn 9 (.cons (.prim .idx (.cons (.var 1) (.cons (.k (.int 1)) .nil))) (.cons (.fn 15 (.cons (.var 0) .nil)) .nil))))) .nil))⟩
/-- is_question_by -/
def f17 : Fd := ⟨"is_question_by", ["trial", "value"], ["trial", "value"], [],
  (.cons (.ret (.fn 9 (.cons (.var 1) (.cons (.fn 13 (.cons (.var 0) .nil)) .nil)))) .nil)⟩
def i18_1 : MS := .ifS (.or (.not (.fn 1 (.cons (.var 3) (.cons (.k (.int 0)) (.cons (.prim .sub (.cons (.var 0) (.cons (.k (.int 1)) .nil))) .nil))))) (.and (.prim .gt (.cons (.var 2) (.cons (.k (.int 0)) .nil))) (.prim .ge (.cons (.prim .idx (.cons (.var 1) (.cons (.prim .sub (.cons (.var 2) (.cons (.k (.int 1)) .nil))) .nil))) (.cons (.var 3) .nil))))) (.cons (.ret (.lst (.cons (.var 2) .nil))) .nil) .nil
def b18_0 : MSs := (.cons i18_1 .nil)
def i18_0 : MS := .ifS (.or (.not (.prim (.isa ["tuple"]) (.cons (.var 1) .nil))) (.prim .eq (.cons (.var 1) (.cons (.tup .nil) .nil)))) (.cons (.ret (.lst (.cons (.k .non) .nil))) .nil) .nil
/-- wrong_in_lot -/
def f18 : Fd := ⟨"wrong_in_lot", ["many", "value"], ["many", "value", "index", "each"], [],
  (.cons i18_0 (.cons (.forS (.tp [(.nm 2), (.nm 3)]) (.enum (.var 1)) b18_0) (.cons (.ret (.lst .nil)) .nil)))⟩
/-- yield_by -/
def f19 : Fd := ⟨"yield_by", ["trial", "plot", "world"], ["trial", "plot", "world", "found"], [],
  (.cons (.asg 3 (.fn 8 (.cons (.prim .idx (.cons (.prim .idx (.cons (.var 0) (.cons (.k (.int 0)) .nil))) (.cons (.var 1) .nil))) (.cons (.prim .idx (.cons (.var 2) (.cons (.k (.int 0)) .nil))) .nil)))) (.cons (.ret (.ite (.prim .ne (.cons (.prim .idx (.cons (.var 0) (.cons (.k (.int 2)) .nil))) (.cons (.tup .nil) .nil))) (.fn 5 (.cons (.var 3) (.cons (.prim .idx (.cons (.prim .idx (.cons (.var 2) (.cons (.k (.int 1)) .nil))) (.cons (.prim .idx (.cons (.prim .idx (.cons (.var 0) (.cons (.k (.int 2)) .nil))) (.cons (.var 1) .nil))) .nil))) .nil))) (.var 3))) .nil))⟩
/-- yields_by -/
def f20 : Fd := ⟨"yields_by", ["trial", "world"], ["trial", "world", "plot"], [],
  (.cons (.ret (.prim .tuple (.cons (.comp (.fn 19 (.cons (.var 0) (.cons (.var 2) (.cons (.var 1) .nil)))) (.nm 2) (.rng1 (.fn 14 (.cons (.var 0) .nil))) .nil [2]) .nil))) .nil)⟩
/-- plots_by -/
def f21 : Fd := ⟨"plots_by", ["trial", "lot"], ["trial", "lot", "rows", "spreads", "blocks", "told", "plot"], [],
  (.cons (.unp (.tp [(.nm 2), (.nm 3), (.nm 4)]) (.var 0)) (.cons (.asg 5 (.ite (.prim .ne (.cons (.var 4) (.cons (.tup .nil) .nil))) (.prim .tuple (.cons (.comp (.prim .idx (.cons (.var 4) (.cons (.var 6) .nil))) (.nm 6) (.val (.var 1)) .nil [6]) .nil)) (.tup .nil))) (.cons (.ret (.tup (.cons (.prim .tuple (.cons (.comp (.prim .idx (.cons (.var 2) (.cons (.var 6) .nil))) (.nm 6) (.val (.var 1)) .nil [6]) .nil)) (.cons (.prim .tuple (.cons (.comp (.prim .idx (.cons (.var 3) (.cons (.var 6) .nil))) (.nm 6) (.val (.var 1)) .nil [6]) .nil)) (.cons (.var 5) .nil))))) .nil)))⟩
def i22_0 : MS := .ifS (.not (.fn 12 (.cons (.var 0) .nil))) (.cons .never .nil) .nil
/-- check_trial -/
def f22 : Fd := ⟨"check_trial", ["value"], ["value"], [],
  (.cons i22_0 .nil)⟩
def i23_0 : MS := .ifS (.not (.fn 16 (.cons (.var 0) (.cons (.var 1) .nil)))) (.cons .never .nil) .nil
/-- check_world -/
def f23 : Fd := ⟨"check_world", ["trial", "value"], ["trial", "value"], [],
  (.cons i23_0 .nil)⟩
def i24_0 : MS := .ifS (.not (.fn 17 (.cons (.var 0) (.cons (.var 1) .nil)))) (.cons .never .nil) .nil
/-- check_question -/
def f24 : Fd := ⟨"check_question", ["trial", "value"], ["trial", "value"], [],
  (.cons i24_0 .nil)⟩
/-- check_asked -/
def f25 : Fd := ⟨"check_asked", ["trial", "question"], ["trial", "question"], [],
  (.cons (.ex (.fn 22 (.cons (.var 0) .nil))) (.cons (.ex (.fn 24 (.cons (.var 0) (.cons (.var 1) .nil)))) .nil))⟩
def b26_0 : MSs := (.cons .never .nil)
/-- check_lot -/
def f26 : Fd := ⟨"check_lot", ["trial", "value"], ["trial", "value", "index"], [],
  (.cons (.forS (.nm 2) (.val (.fn 18 (.cons (.fn 14 (.cons (.var 0) .nil)) (.cons (.var 1) .nil)))) b26_0) .nil)⟩
/-- yields -/
def f27 : Fd := ⟨"yields", ["trial", "world"], ["trial", "world"], [],
  (.cons (.ex (.fn 22 (.cons (.var 0) .nil))) (.cons (.ex (.fn 23 (.cons (.var 0) (.cons (.var 1) .nil)))) (.cons (.ret (.fn 20 (.cons (.var 0) (.cons (.var 1) .nil)))) .nil)))⟩
/-- answer -/
def f28 : Fd := ⟨"answer", ["trial", "question", "world"], ["trial", "question", "world"], [],
  (.cons (.ex (.fn 25 (.cons (.var 0) (.cons (.var 1) .nil)))) (.cons (.ex (.fn 23 (.cons (.var 0) (.cons (.var 2) .nil)))) (.cons (.ret (.fn 8 (.cons (.var 1) (.cons (.prim .idx (.cons (.var 2) (.cons (.k (.int 0)) .nil))) .nil)))) .nil)))⟩
/-- plots_of -/
def f29 : Fd := ⟨"plots_of", ["trial", "lot"], ["trial", "lot"], [],
  (.cons (.ex (.fn 22 (.cons (.var 0) .nil))) (.cons (.ex (.fn 26 (.cons (.var 0) (.cons (.var 1) .nil)))) (.cons (.ret (.fn 21 (.cons (.var 0) (.cons (.var 1) .nil)))) .nil)))⟩
def b30_0 : MSs := (.cons (.asg 2 (.prim .mod (.cons (.prim .int (.cons (.prim .add (.cons (.prim .add (.cons (.prim .mul (.cons (.var 2) (.cons (.k (.int 52361)) .nil))) (.cons (.prim .mul (.cons (.prim .mod (.cons (.prim .int (.cons (.var 3) .nil)) (.cons (.k (.int 2147483489)) .nil))) (.cons (.k (.int 7)) .nil))) .nil))) (.cons (.k (.int 19)) .nil))) .nil)) (.cons (.k (.int 2147483489)) .nil)))) .nil)
/-- _law_well -/
def f30 : Fd := ⟨"_law_well", ["_law_script", "_law_lap"], ["_law_script", "_law_lap", "_law_mixed", "_law_cell", "_law_own"], [],
  (.cons (.asg 2 (.prim .add (.cons (.k (.int 40031)) (.cons (.prim .mul (.cons (.k (.int 7919)) (.cons (.var 1) .nil))) .nil)))) (.cons (.forS (.nm 3) (.val (.prim (.sl false true) (.cons (.var 0) (.cons (.k (.int 10)) .nil)))) b30_0) (.cons (.asg 4 (.ite (.prim .lt (.cons (.var 1) (.cons (.prim .len (.cons (.var 0) .nil)) .nil))) (.prim .int (.cons (.prim .idx (.cons (.var 0) (.cons (.var 1) .nil))) .nil)) (.k (.int 0)))) (.cons (.asg 2 (.prim .mod (.cons (.prim .int (.cons (.prim .add (.cons (.prim .add (.cons (.prim .mul (.cons (.var 2) (.cons (.k (.int 47)) .nil))) (.cons (.prim .mul (.cons (.prim .mod (.cons (.prim .int (.cons (.var 4) .nil)) (.cons (.k (.int 2147483489)) .nil))) (.cons (.k (.int 30109)) .nil))) .nil))) (.cons (.k (.int 5)) .nil))) .nil)) (.cons (.k (.int 2147483489)) .nil)))) (.cons (.ret (.lst (.cons (.ite (.or (.prim .lt (.cons (.var 4) (.cons (.k (.int 0)) .nil))) (.prim .ge (.cons (.var 4) (.cons (.prim .pow (.cons (.k (.int 10)) (.cons (.k (.int 14)) .nil))) .nil)))) (.prim .abs (.cons (.var 4) .nil)) (.k (.int 0))) (.cons (.var 2) (.cons (.k (.int 0)) .nil))))) .nil)))))⟩
def i31_0 : MS := .ifS (.prim .gt (.cons (.prim .idx (.cons (.var 0) (.cons (.k (.int 0)) .nil))) (.cons (.k (.int 0)) .nil))) (.cons (.unp (.tp [(.ixc 0 0), (.nm 2)]) (.prim .divmod (.cons (.prim .idx (.cons (.var 0) (.cons (.k (.int 0)) .nil))) (.cons (.var 1) .nil)))) (.cons (.retV 2) .nil)) .nil
/-- _law_draw -/
def f31 : Fd := ⟨"_law_draw", ["_law_well_here", "_law_few"], ["_law_well_here", "_law_few", "_law_figure", "_law_mixed"], [],
  (.cons i31_0 (.cons (.setI 0 (.k (.int 2)) (.prim .add (.cons (.prim .idx (.cons (.var 0) (.cons (.k (.int 2)) .nil))) (.cons (.k (.int 1)) .nil)))) (.cons (.asg 3 (.prim .mod (.cons (.prim .int (.cons (.prim .add (.cons (.prim .mul (.cons (.prim .idx (.cons (.var 0) (.cons (.k (.int 1)) .nil))) (.cons (.k (.int 48271)) .nil))) (.cons (.prim .mul (.cons (.k (.int 15017)) (.cons (.prim .idx (.cons (.var 0) (.cons (.k (.int 2)) .nil))) .nil))) .nil))) .nil)) (.cons (.k (.int 2147483489)) .nil)))) (.cons (.setI 0 (.k (.int 1)) (.prim .mod (.cons (.prim .int (.cons (.prim .add (.cons (.prim .mul (.cons (.var 3) (.cons (.prim .add (.cons (.prim .mod (.cons (.prim .int (.cons (.var 3) .nil)) (.cons (.k (.int 5003)) .nil))) (.cons (.k (.int 20021)) .nil))) .nil))) (.cons (.prim .idx (.cons (.var 0) (.cons (.k (.int 2)) .nil))) .nil))) .nil)) (.cons (.k (.int 2147483489)) .nil)))) (.cons (.ret (.prim .mod (.cons (.prim .int (.cons (.prim .fdiv (.cons (.prim .idx (.cons (.var 0) (.cons (.k (.int 1)) .nil))) (.cons (.k (.int 1009)) .nil))) .nil)) (.cons (.var 1) .nil)))) .nil)))))⟩
/-- _law_one -/
def f32 : Fd := ⟨"_law_one", ["_law_well_here", "_law_some"], ["_law_well_here", "_law_some"], [],
  (.cons (.ret (.prim .idx (.cons (.var 1) (.cons (.fn 31 (.cons (.var 0) (.cons (.prim .len (.cons (.var 1) .nil)) .nil))) .nil)))) .nil)⟩
def b33_0 : MSs := (.cons (.par [2, 3] (.cons (.var 3) (.cons (.prim .mod (.cons (.prim .int (.cons (.var 2) .nil)) (.cons (.var 3) .nil))) .nil))) .nil)
/-- _law_lean -/
def f33 : Fd := ⟨"_law_lean", ["_law_top", "_law_base"], ["_law_top", "_law_base", "_law_far", "_law_rest"], [],
  (.cons (.par [2, 3] (.cons (.prim .abs (.cons (.var 0) .nil)) (.cons (.prim .abs (.cons (.var 1) .nil)) .nil))) (.cons (.whl (.prim .gt (.cons (.var 3) (.cons (.k (.int 0)) .nil))) b33_0) (.cons (.asg 2 (.ite (.prim .gt (.cons (.var 1) (.cons (.k (.int 0)) .nil))) (.var 2) (.prim .sub (.cons (.k (.int 0)) (.cons (.var 2) .nil))))) (.cons (.ret (.tup (.cons (.prim .fdiv (.cons (.var 0) (.cons (.var 2) .nil))) (.cons (.prim .fdiv (.cons (.var 1) (.cons (.var 2) .nil))) .nil)))) .nil))))⟩
/-- _law_plus -/
def f34 : Fd := ⟨"_law_plus", ["_law_x", "_law_y"], ["_law_x", "_law_y"], [],
  (.cons (.ret (.fn 33 (.cons (.prim .add (.cons (.prim .mul (.cons (.prim .idx (.cons (.var 0) (.cons (.k (.int 0)) .nil))) (.cons (.prim .idx (.cons (.var 1) (.cons (.k (.int 1)) .nil))) .nil))) (.cons (.prim .mul (.cons (.prim .idx (.cons (.var 1) (.cons (.k (.int 0)) .nil))) (.cons (.prim .idx (.cons (.var 0) (.cons (.k (.int 1)) .nil))) .nil))) .nil))) (.cons (.prim .mul (.cons (.prim .idx (.cons (.var 0) (.cons (.k (.int 1)) .nil))) (.cons (.prim .idx (.cons (.var 1) (.cons (.k (.int 1)) .nil))) .nil))) .nil)))) .nil)⟩
/-- _law_minus -/
def f35 : Fd := ⟨"_law_minus", ["_law_x", "_law_y"], ["_law_x", "_law_y"], [],
  (.cons (.ret (.fn 33 (.cons (.prim .sub (.cons (.prim .mul (.cons (.prim .idx (.cons (.var 0) (.cons (.k (.int 0)) .nil))) (.cons (.prim .idx (.cons (.var 1) (.cons (.k (.int 1)) .nil))) .nil))) (.cons (.prim .mul (.cons (.prim .idx (.cons (.var 1) (.cons (.k (.int 0)) .nil))) (.cons (.prim .idx (.cons (.var 0) (.cons (.k (.int 1)) .nil))) .nil))) .nil))) (.cons (.prim .mul (.cons (.prim .idx (.cons (.var 0) (.cons (.k (.int 1)) .nil))) (.cons (.prim .idx (.cons (.var 1) (.cons (.k (.int 1)) .nil))) .nil))) .nil)))) .nil)⟩
/-- _law_times -/
def f36 : Fd := ⟨"_law_times", ["_law_x", "_law_y"], ["_law_x", "_law_y"], [],
  (.cons (.ret (.fn 33 (.cons (.prim .mul (.cons (.prim .idx (.cons (.var 0) (.cons (.k (.int 0)) .nil))) (.cons (.prim .idx (.cons (.var 1) (.cons (.k (.int 0)) .nil))) .nil))) (.cons (.prim .mul (.cons (.prim .idx (.cons (.var 0) (.cons (.k (.int 1)) .nil))) (.cons (.prim .idx (.cons (.var 1) (.cons (.k (.int 1)) .nil))) .nil))) .nil)))) .nil)⟩
def b37_0 : MSs := (.cons (.asg 2 (.fn 34 (.cons (.var 2) (.cons (.fn 36 (.cons (.var 3) (.cons (.var 4) .nil))) .nil)))) .nil)
/-- _law_dot -/
def f37 : Fd := ⟨"_law_dot", ["_law_one_here", "_law_two"], ["_law_one_here", "_law_two", "_law_found", "_law_x", "_law_y"], [],
  (.cons (.asg 2 (.tup (.cons (.k (.int 0)) (.cons (.k (.int 1)) .nil)))) (.cons (.forS (.tp [(.nm 3), (.nm 4)]) (.zip (.var 0) (.var 1)) b37_0) (.cons (.retV 2) .nil)))⟩
def i38_0 : MS := .ifS (.prim .lt (.cons (.var 1) (.cons (.k (.int 15)) .nil))) (.cons (.ret (.fn 32 (.cons (.var 0) (.cons (.tup (.cons (.tup (.cons (.k (.int 0)) (.cons (.k (.int 1)) .nil))) (.cons (.tup (.cons (.k (.int 0)) (.cons (.k (.int 1)) .nil))) (.cons (.tup (.cons (.k (.int 0)) (.cons (.k (.int 1)) .nil))) (.cons (.tup (.cons (.k (.int 1)) (.cons (.k (.int 1)) .nil))) (.cons (.tup (.cons (.k (.int 1)) (.cons (.k (.int 1)) .nil))) (.cons (.tup (.cons (.prim .neg (.cons (.k (.int 1)) .nil)) (.cons (.k (.int 1)) .nil))) (.cons (.tup (.cons (.k (.int 2)) (.cons (.k (.int 1)) .nil))) (.cons (.tup (.cons (.prim .neg (.cons (.k (.int 2)) .nil)) (.cons (.k (.int 1)) .nil))) (.cons (.tup (.cons (.k (.int 1)) (.cons (.k (.int 2)) .nil))) (.cons (.tup (.cons (.prim .neg (.cons (.k (.int 1)) .nil)) (.cons (.k (.int 3)) .nil))) .nil))))))))))) .nil)))) .nil) .nil
/-- _law_number -/
def f38 : Fd := ⟨"_law_number", ["_law_well_here"], ["_law_well_here", "_law_way"], [],
  (.cons (.asg 1 (.fn 31 (.cons (.var 0) (.cons (.k (.int 16)) .nil)))) (.cons i38_0 (.cons (.ret (.fn 33 (.cons (.prim .sub (.cons (.fn 31 (.cons (.var 0) (.cons (.k (.int 2000001)) .nil))) (.cons (.k (.int 1000000)) .nil))) (.cons (.prim .add (.cons (.k (.int 1)) (.cons (.fn 31 (.cons (.var 0) (.cons (.k (.int 60)) .nil))) .nil))) .nil)))) .nil)))⟩
def b39_0 : MSs := (.cons (.app 2 (.fn 38 (.cons (.var 0) .nil))) .nil)
/-- _law_numbers -/
def f39 : Fd := ⟨"_law_numbers", ["_law_well_here", "_law_few"], ["_law_well_here", "_law_few", "_law_found", "_law_turn"], [],
  (.cons (.asg 2 (.lst .nil)) (.cons (.forS (.nm 3) (.rng1 (.var 1)) b39_0) (.cons (.ret (.prim .tuple (.cons (.var 2) .nil))) .nil)))⟩
def i40_1 : MS := .ifS (.and (.prim .gt (.cons (.prim .len (.cons (.var 3) .nil)) (.cons (.k (.int 1)) .nil))) (.prim .eq (.cons (.fn 31 (.cons (.var 0) (.cons (.k (.int 6)) .nil))) (.cons (.k (.int 0)) .nil)))) (.cons (.par [10, 11] (.cons (.fn 32 (.cons (.var 0) (.cons (.var 3) .nil))) (.cons (.fn 32 (.cons (.var 0) (.cons (.var 3) .nil))) .nil))) (.cons (.asg 9 (.prim .tuple (.cons (.comp (.fn 35 (.cons (.var 12) (.cons (.var 13) .nil))) (.tp [(.nm 12), (.nm 13)]) (.zip (.var 10) (.var 11)) .nil [12, 13]) .nil))) .nil)) .nil
def i40_0 : MS := .ifS (.and (.prim .ne (.cons (.var 3) (.cons (.lst .nil) .nil))) (.prim .eq (.cons (.fn 31 (.cons (.var 0) (.cons (.k (.int 4)) .nil))) (.cons (.k (.int 0)) .nil)))) (.cons (.asg 9 (.prim .idx (.cons (.var 3) (.cons (.fn 31 (.cons (.var 0) (.cons (.prim .len (.cons (.var 3) .nil)) .nil))) .nil)))) .nil) .nil
def b40_0 : MSs := (.cons (.asg 9 (.fn 39 (.cons (.var 0) (.cons (.var 2) .nil)))) (.cons i40_0 (.cons i40_1 (.cons (.app 3 (.var 9)) (.cons (.app 4 (.fn 32 (.cons (.var 0) (.cons (.tup (.cons (.tup (.cons (.k (.int 1)) (.cons (.k (.int 1)) .nil))) (.cons (.tup (.cons (.k (.int 1)) (.cons (.k (.int 1)) .nil))) (.cons (.tup (.cons (.k (.int 1)) (.cons (.k (.int 1)) .nil))) (.cons (.tup (.cons (.k (.int 2)) (.cons (.k (.int 1)) .nil))) (.cons (.tup (.cons (.k (.int 1)) (.cons (.k (.int 2)) .nil))) (.cons (.tup (.cons (.k (.int 1)) (.cons (.k (.int 3)) .nil))) (.cons (.tup (.cons (.k (.int 5)) (.cons (.k (.int 2)) .nil))) .nil)))))))) .nil)))) (.cons (.app 5 (.ite (.prim .gt (.cons (.var 7) (.cons (.k (.int 0)) .nil))) (.fn 31 (.cons (.var 0) (.cons (.var 7) .nil))) (.k (.int 0)))) .nil))))))
/-- _law_trial -/
def f40 : Fd := ⟨"_law_trial", ["_law_well_here", "_law_most"], ["_law_well_here", "_law_most", "_law_few", "_law_rows", "_law_spreads", "_law_blocks", "_law_many", "_law_kinds", "_law_turn", "_law_row", "_law_one_here", "_law_two", "_law_x", "_law_y"], [],
  (.cons (.parT [2, 3, 4, 5] (.cons (.prim .add (.cons (.k (.int 1)) (.cons (.fn 31 (.cons (.var 0) (.cons (.k (.int 5)) .nil))) .nil))) (.cons (.lst .nil) (.cons (.lst .nil) (.cons (.lst .nil) .nil))))) (.cons (.par [6, 7] (.cons (.prim .add (.cons (.k (.int 1)) (.cons (.fn 31 (.cons (.var 0) (.cons (.var 1) .nil))) .nil))) (.cons (.fn 32 (.cons (.var 0) (.cons (.tup (.cons (.k (.int 0)) (.cons (.k (.int 0)) (.cons (.k (.int 1)) (.cons (.k (.int 2)) (.cons (.k (.int 2)) (.cons (.k (.int 3)) (.cons (.k (.int 5)) .nil)))))))) .nil))) .nil))) (.cons (.forS (.nm 8) (.rng1 (.var 6)) b40_0) (.cons (.ret (.tup (.cons (.prim .tuple (.cons (.var 3) .nil)) (.cons (.prim .tuple (.cons (.var 4) .nil)) (.cons (.ite (.prim .gt (.cons (.var 7) (.cons (.k (.int 0)) .nil))) (.prim .tuple (.cons (.var 5) .nil)) (.tup .nil)) .nil))))) .nil))))⟩
/-- _law_levels -/
def f41 : Fd := ⟨"_law_levels", ["_law_trial_here"], ["_law_trial_here"], [],
  (.cons (.ret (.ite (.prim .eq (.cons (.prim .idx (.cons (.var 0) (.cons (.k (.int 2)) .nil))) (.cons (.tup .nil) .nil))) (.k (.int 0)) (.prim .add (.cons (.prim .maxL (.cons (.prim .idx (.cons (.var 0) (.cons (.k (.int 2)) .nil))) .nil)) (.cons (.k (.int 1)) .nil))))) .nil)⟩
/-- _law_world -/
def f42 : Fd := ⟨"_law_world", ["_law_well_here", "_law_trial_here"], ["_law_well_here", "_law_trial_here"], [],
  (.cons (.ret (.tup (.cons (.fn 39 (.cons (.var 0) (.cons (.prim .len (.cons (.prim .idx (.cons (.prim .idx (.cons (.var 1) (.cons (.k (.int 0)) .nil))) (.cons (.k (.int 0)) .nil))) .nil)) .nil))) (.cons (.fn 39 (.cons (.var 0) (.cons (.fn 41 (.cons (.var 1) .nil)) .nil))) .nil)))) .nil)⟩
def b43_0 : MSs := (.cons (.asg 5 (.ite (.prim .gt (.cons (.var 1) (.cons (.k (.int 0)) .nil))) (.prim .idx (.cons (.prim .idx (.cons (.var 0) (.cons (.k (.int 2)) .nil))) (.cons (.var 3) .nil))) (.k (.int 0)))) (.cons (.app 2 (.prim .add (.cons (.var 4) (.cons (.prim .tuple (.cons (.comp (.tup (.cons (.prim .int (.cons (.prim .eq (.cons (.var 6) (.cons (.var 5) .nil))) .nil)) (.cons (.k (.int 1)) .nil))) (.nm 6) (.rng1 (.var 1)) .nil [6]) .nil)) .nil)))) .nil))
/-- _law_long -/
def f43 : Fd := ⟨"_law_long", ["_law_trial_here"], ["_law_trial_here", "_law_levels_here", "_law_found", "_law_at", "_law_row", "_law_block", "_law_to"], [],
  (.cons (.par [1, 2] (.cons (.fn 41 (.cons (.var 0) .nil)) (.cons (.lst .nil) .nil))) (.cons (.forS (.tp [(.nm 3), (.nm 4)]) (.enum (.prim .idx (.cons (.var 0) (.cons (.k (.int 0)) .nil)))) b43_0) (.cons (.retV 2) .nil)))⟩
/-- _law_yields -/
def f44 : Fd := ⟨"_law_yields", ["_law_trial_here", "_law_world_here"], ["_law_trial_here", "_law_world_here", "_law_row"], [],
  (.cons (.ret (.prim .tuple (.cons (.comp (.fn 37 (.cons (.var 2) (.cons (.prim .add (.cons (.prim .idx (.cons (.var 1) (.cons (.k (.int 0)) .nil))) (.cons (.prim .idx (.cons (.var 1) (.cons (.k (.int 1)) .nil))) .nil))) .nil))) (.nm 2) (.val (.fn 43 (.cons (.var 0) .nil))) .nil [2]) .nil))) .nil)⟩
def b45_1 : MSs := (.cons (.asg 12 (.ite (.prim .eq (.cons (.var 5) (.cons (.k (.int 0)) .nil))) (.prim .idx (.cons (.prim .idx (.cons (.var 3) (.cons (.var 7) .nil))) (.cons (.var 11) .nil))) (.fn 35 (.cons (.prim .idx (.cons (.prim .idx (.cons (.var 3) (.cons (.var 7) .nil))) (.cons (.var 11) .nil))) (.cons (.prim .idx (.cons (.prim .idx (.cons (.var 3) (.cons (.var 8) .nil))) (.cons (.var 11) .nil))) .nil))))) (.cons (.setI 4 (.var 11) (.ite (.var 10) (.fn 34 (.cons (.prim .idx (.cons (.var 4) (.cons (.var 11) .nil))) (.cons (.fn 36 (.cons (.var 9) (.cons (.var 12) .nil))) .nil))) (.prim .idx (.cons (.var 4) (.cons (.var 11) .nil))))) .nil))
def b45_0 : MSs := (.cons (.par [7, 8] (.cons (.fn 31 (.cons (.var 0) (.cons (.prim .len (.cons (.var 3) .nil)) .nil))) (.cons (.fn 31 (.cons (.var 0) (.cons (.prim .len (.cons (.var 3) .nil)) .nil))) .nil))) (.cons (.asg 9 (.fn 38 (.cons (.var 0) .nil))) (.cons (.asg 10 (.or (.prim .eq (.cons (.var 5) (.cons (.k (.int 0)) .nil))) (.prim .eq (.cons (.prim .idx (.cons (.prim .idx (.cons (.var 1) (.cons (.k (.int 2)) .nil))) (.cons (.var 7) .nil))) (.cons (.prim .idx (.cons (.prim .idx (.cons (.var 1) (.cons (.k (.int 2)) .nil))) (.cons (.var 8) .nil))) .nil))))) (.cons (.forS (.nm 11) (.rng1 (.var 2)) b45_1) .nil))))
def i45_0 : MS := .ifS (.prim .eq (.cons (.fn 31 (.cons (.var 0) (.cons (.k (.int 2)) .nil))) (.cons (.k (.int 0)) .nil))) (.cons (.ret (.fn 39 (.cons (.var 0) (.cons (.var 2) .nil)))) .nil) .nil
/-- _law_asked -/
def f45 : Fd := ⟨"_law_asked", ["_law_well_here", "_law_trial_here"], ["_law_well_here", "_law_trial_here", "_law_few", "_law_long_here", "_law_found", "_law_levels_here", "_law_turn", "_law_at", "_law_to", "_law_by", "_law_is_alike", "_law_spot", "_law_part"], [],
  (.cons (.par [2, 3] (.cons (.prim .len (.cons (.prim .idx (.cons (.prim .idx (.cons (.var 1) (.cons (.k (.int 0)) .nil))) (.cons (.k (.int 0)) .nil))) .nil)) (.cons (.fn 43 (.cons (.var 1) .nil)) .nil))) (.cons i45_0 (.cons (.par [4, 5] (.cons (.prim .mul (.cons (.lst (.cons (.tup (.cons (.k (.int 0)) (.cons (.k (.int 1)) .nil))) .nil)) (.cons (.var 2) .nil))) (.cons (.fn 41 (.cons (.var 1) .nil)) .nil))) (.cons (.forS (.nm 6) (.rng1 (.prim .add (.cons (.k (.int 1)) (.cons (.fn 31 (.cons (.var 0) (.cons (.k (.int 3)) .nil))) .nil)))) b45_0) (.cons (.ret (.prim .tuple (.cons (.var 4) .nil))) .nil)))))⟩
def b46_0 : MSs := (.cons (.asg 2 (.prim .add (.cons (.var 2) (.cons (.ite (.prim .eq (.cons (.fn 31 (.cons (.var 0) (.cons (.k (.int 2)) .nil))) (.cons (.k (.int 0)) .nil))) (.lst (.cons (.var 3) .nil)) (.lst .nil)) .nil)))) .nil)
/-- _law_lot -/
def f46 : Fd := ⟨"_law_lot", ["_law_well_here", "_law_many"], ["_law_well_here", "_law_many", "_law_found", "_law_at"], [],
  (.cons (.asg 2 (.lst .nil)) (.cons (.forS (.nm 3) (.rng1 (.var 1)) b46_0) (.cons (.ret (.ite (.prim .ne (.cons (.var 2) (.cons (.lst .nil) .nil))) (.prim .tuple (.cons (.var 2) .nil)) (.tup (.cons (.fn 31 (.cons (.var 0) (.cons (.var 1) .nil))) .nil)))) .nil)))⟩
def i47_3 : MS := .ifS (.prim .ne (.cons (.prim .repr (.cons (.fn 27 (.cons (.var 12) (.cons (.var 13) .nil))) .nil)) (.cons (.prim .repr (.cons (.prim .tuple (.cons (.comp (.prim .idx (.cons (.var 6) (.cons (.var 14) .nil))) (.nm 14) (.val (.var 5)) .nil [14]) .nil)) .nil)) .nil))) (.cons (.ret (.k (.bl false))) .nil) .nil
def i47_2 : MS := .ifS (.prim .ne (.cons (.prim .repr (.cons (.lst (.cons (.fn 29 (.cons (.var 2) (.cons (.var 5) .nil))) (.cons (.fnK 29 [1, 0] (.cons (.var 5) (.cons (.var 2) .nil))) .nil))) .nil)) (.cons (.prim .repr (.cons (.lst (.cons (.var 12) (.cons (.var 12) .nil))) .nil)) .nil))) (.cons (.ret (.k (.bl false))) .nil) .nil
def i47_1 : MS := .ifS (.prim .ne (.cons (.prim .repr (.cons (.var 8) .nil)) (.cons (.prim .repr (.cons (.lst (.cons (.var 7) (.cons (.var 7) .nil))) .nil)) .nil))) (.cons (.ret (.k (.bl false))) .nil) .nil
def i47_0 : MS := .ifS (.prim .ne (.cons (.prim .repr (.cons (.lst (.cons (.fn 27 (.cons (.var 2) (.cons (.var 3) .nil))) (.cons (.fnK 27 [1, 0] (.cons (.var 3) (.cons (.var 2) .nil))) .nil))) .nil)) (.cons (.prim .repr (.cons (.lst (.cons (.var 6) (.cons (.var 6) .nil))) .nil)) .nil))) (.cons (.ret (.k (.bl false))) .nil) .nil
def b47_0 : MSs := (.cons (.asg 2 (.fn 40 (.cons (.var 0) (.cons (.k (.int 10)) .nil)))) (.cons (.par [3, 4, 5] (.cons (.fn 42 (.cons (.var 0) (.cons (.var 2) .nil))) (.cons (.fn 45 (.cons (.var 0) (.cons (.var 2) .nil))) (.cons (.fn 46 (.cons (.var 0) (.cons (.prim .len (.cons (.prim .idx (.cons (.var 2) (.cons (.k (.int 0)) .nil))) .nil)) .nil))) .nil)))) (.cons (.asg 6 (.fn 44 (.cons (.var 2) (.cons (.var 3) .nil)))) (.cons i47_0 (.cons (.asg 7 (.fn 37 (.cons (.var 4) (.cons (.prim .idx (.cons (.var 3) (.cons (.k (.int 0)) .nil))) .nil)))) (.cons (.asg 8 (.lst (.cons (.fn 28 (.cons (.var 2) (.cons (.var 4) (.cons (.var 3) .nil)))) (.cons (.fnK 28 [2, 1, 0] (.cons (.var 3) (.cons (.var 4) (.cons (.var 2) .nil)))) .nil)))) (.cons i47_1 (.cons (.unp (.tp [(.nm 9), (.nm 10), (.nm 11)]) (.var 2)) (.cons (.asg 12 (.tup (.cons (.prim .tuple (.cons (.comp (.prim .idx (.cons (.var 9) (.cons (.var 14) .nil))) (.nm 14) (.val (.var 5)) .nil [14]) .nil)) (.cons (.prim .tuple (.cons (.comp (.prim .idx (.cons (.var 10) (.cons (.var 14) .nil))) (.nm 14) (.val (.var 5)) .nil [14]) .nil)) .nil)))) (.cons (.asg 12 (.prim .add (.cons (.var 12) (.cons (.tup (.cons (.ite (.prim .ne (.cons (.var 11) (.cons (.tup .nil) .nil))) (.prim .tuple (.cons (.comp (.prim .idx (.cons (.var 11) (.cons (.var 14) .nil))) (.nm 14) (.val (.var 5)) .nil [14]) .nil)) (.tup .nil)) .nil)) .nil)))) (.cons i47_2 (.cons (.asg 13 (.tup (.cons (.prim .idx (.cons (.var 3) (.cons (.k (.int 0)) .nil))) (.cons (.prim (.sl false true) (.cons (.prim .idx (.cons (.var 3) (.cons (.k (.int 1)) .nil))) (.cons (.fn 41 (.cons (.var 12) .nil)) .nil))) .nil)))) (.cons i47_3 .nil)))))))))))))
/-- _law_right -/
def f47 : Fd := ⟨"_law_right", ["_law_well_here"], ["_law_well_here", "_law_turn", "_law_trial_here", "_law_world_here", "_law_asked_here", "_law_lot_here", "_law_due", "_law_own", "_law_told", "_law_rows", "_law_spreads", "_law_blocks", "_law_few", "_law_less", "_law_at"], [],
  (.cons (.forS (.nm 1) (.rng1 (.k (.int 4))) b47_0) (.cons (.ret (.k (.bl true))) .nil))⟩
/-- law -/
def f48 : Fd := ⟨"law", ["_law_script"], ["_law_script", "_law_lap"], [],
  (.cons (.ret (.prim .all (.cons (.comp (.fn 47 (.cons (.fn 30 (.cons (.var 0) (.cons (.var 1) .nil))) .nil)) (.nm 1) (.rng1 (.prim .max2 (.cons (.k (.int 2)) (.cons (.prim .min2 (.cons (.prim .len (.cons (.var 0) .nil)) (.cons (.k (.int 4)) .nil))) .nil)))) .nil [1]) .nil))) .nil)⟩
def tab : List Fd := [f0, f1, f2, f3, f4, f5, f6, f7, f8, f9, f10, f11, f12, f13, f14, f15, f16, f17, f18, f19, f20, f21, f22, f23, f24, f25, f26, f27, f28, f29, f30, f31, f32, f33, f34, f35, f36, f37, f38, f39, f40, f41, f42, f43, f44, f45, f46, f47, f48]
def gv : List (Str × Option PyData) := [("gcd", none), ("ZERO", some (.tuple [(.int 0), (.int 1)])), ("MOST_BLOCK", some (.int 4)), ("MOST_UNKNOWNS", some (.int 5)), ("MOST_PLOTS", some (.int 10))]
def s0 : Str × List Str × List (List Str × List Nat) := ("is_whole", ["value"], [])
def s1 : Str × List Str × List (List Str × List Nat) := ("is_between", ["value", "low", "high"], [])
def s2 : Str × List Str × List (List Str × List Nat) := ("is_tuple_of", ["value", "many"], [])
def s3 : Str × List Str × List (List Str × List Nat) := ("is_ratio", ["value"], [])
def s4 : Str × List Str × List (List Str × List Nat) := ("ratio", ["top", "low"], [])
def s5 : Str × List Str × List (List Str × List Nat) := ("plus", ["one", "two"], [])
def s6 : Str × List Str × List (List Str × List Nat) := ("times", ["one", "two"], [])
def s7 : Str × List Str × List (List Str × List Nat) := ("total", ["fractions"], [])
def s8 : Str × List Str × List (List Str × List Nat) := ("dot", ["one", "two"], [])
def s9 : Str × List Str × List (List Str × List Nat) := ("is_row", ["value", "many"], [])
def s10 : Str × List Str × List (List Str × List Nat) := ("are_blocks", ["value", "many"], [])
def s11 : Str × List Str × List (List Str × List Nat) := ("are_plots", ["value"], [])
def s12 : Str × List Str × List (List Str × List Nat) := ("is_trial_by", ["value"], [])
def s13 : Str × List Str × List (List Str × List Nat) := ("many_unknowns", ["trial"], [])
def s14 : Str × List Str × List (List Str × List Nat) := ("many_plots", ["trial"], [])
def s15 : Str × List Str × List (List Str × List Nat) := ("many_levels", ["trial"], [])
def s16 : Str × List Str × List (List Str × List Nat) := ("is_world_by", ["trial", "value"], [])
def s17 : Str × List Str × List (List Str × List Nat) := ("is_question_by", ["trial", "value"], [])
def s18 : Str × List Str × List (List Str × List Nat) := ("wrong_in_lot", ["many", "value"], [])
def s19 : Str × List Str × List (List Str × List Nat) := ("yield_by", ["trial", "plot", "world"], [])
def s20 : Str × List Str × List (List Str × List Nat) := ("yields_by", ["trial", "world"], [])
def s21 : Str × List Str × List (List Str × List Nat) := ("plots_by", ["trial", "lot"], [])
def s22 : Str × List Str × List (List Str × List Nat) := ("check_trial", ["value"], [])
def s23 : Str × List Str × List (List Str × List Nat) := ("check_world", ["trial", "value"], [])
def s24 : Str × List Str × List (List Str × List Nat) := ("check_question", ["trial", "value"], [])
def s25 : Str × List Str × List (List Str × List Nat) := ("check_asked", ["trial", "question"], [])
def s26 : Str × List Str × List (List Str × List Nat) := ("check_lot", ["trial", "value"], [])
def s27 : Str × List Str × List (List Str × List Nat) := ("yields", ["trial", "world"], [(["world", "trial"], [1, 0])])
def s28 : Str × List Str × List (List Str × List Nat) := ("answer", ["trial", "question", "world"], [(["world", "question", "trial"], [2, 1, 0])])
def s29 : Str × List Str × List (List Str × List Nat) := ("plots_of", ["trial", "lot"], [(["lot", "trial"], [1, 0])])
def s30 : Str × List Str × List (List Str × List Nat) := ("_law_well", ["_law_script", "_law_lap"], [])
def s31 : Str × List Str × List (List Str × List Nat) := ("_law_draw", ["_law_well_here", "_law_few"], [])
def s32 : Str × List Str × List (List Str × List Nat) := ("_law_one", ["_law_well_here", "_law_some"], [])
def s33 : Str × List Str × List (List Str × List Nat) := ("_law_lean", ["_law_top", "_law_base"], [])
def s34 : Str × List Str × List (List Str × List Nat) := ("_law_plus", ["_law_x", "_law_y"], [])
def s35 : Str × List Str × List (List Str × List Nat) := ("_law_minus", ["_law_x", "_law_y"], [])
def s36 : Str × List Str × List (List Str × List Nat) := ("_law_times", ["_law_x", "_law_y"], [])
def s37 : Str × List Str × List (List Str × List Nat) := ("_law_dot", ["_law_one_here", "_law_two"], [])
def s38 : Str × List Str × List (List Str × List Nat) := ("_law_number", ["_law_well_here"], [])
def s39 : Str × List Str × List (List Str × List Nat) := ("_law_numbers", ["_law_well_here", "_law_few"], [])
def s40 : Str × List Str × List (List Str × List Nat) := ("_law_trial", ["_law_well_here", "_law_most"], [])
def s41 : Str × List Str × List (List Str × List Nat) := ("_law_levels", ["_law_trial_here"], [])
def s42 : Str × List Str × List (List Str × List Nat) := ("_law_world", ["_law_well_here", "_law_trial_here"], [])
def s43 : Str × List Str × List (List Str × List Nat) := ("_law_long", ["_law_trial_here"], [])
def s44 : Str × List Str × List (List Str × List Nat) := ("_law_yields", ["_law_trial_here", "_law_world_here"], [])
def s45 : Str × List Str × List (List Str × List Nat) := ("_law_asked", ["_law_well_here", "_law_trial_here"], [])
def s46 : Str × List Str × List (List Str × List Nat) := ("_law_lot", ["_law_well_here", "_law_many"], [])
def s47 : Str × List Str × List (List Str × List Nat) := ("_law_right", ["_law_well_here"], [])
def s48 : Str × List Str × List (List Str × List Nat) := ("law", ["_law_script"], [])
def fs : List (Str × List Str × List (List Str × List Nat)) := [s0, s1, s2, s3, s4, s5, s6, s7, s8, s9, s10, s11, s12, s13, s14, s15, s16, s17, s18, s19, s20, s21, s22, s23, s24, s25, s26, s27, s28, s29, s30, s31, s32, s33, s34, s35, s36, s37, s38, s39, s40, s41, s42, s43, s44, s45, s46, s47, s48]
def sg : Sg := ⟨fs, gv.map (·.1)⟩
abbrev C (n : Nat) : Eng.Ctx := ctx tab (glOf gv) n
end LaK03
/-! facts of the defs and of the module's top; printed by wip/printer.py -/
namespace LaK03
open PySem PySem.Spec PyProof.Rows L2 Eng
theorem sc0 : FnScope f0.N ["value"] (defScope (top 8)) := ⟨rfl, rfl, rfl, by decide +kernel, rfl, by decide +kernel, by decide +kernel⟩
theorem ck0 : chkSs sg f0.N (keepF f0.asg 1) (defScope (top 8)) f0.body (defBody (top 8)) = true := by decide +kernel
theorem bp0 : BindsP "is_whole" (top 8) ["value"] := fun _ _ _ _ _ _ us hl => match us, hl with | [_], _ => rfl
theorem sc1 : FnScope f1.N ["value", "low", "high"] (defScope (top 9)) := ⟨rfl, rfl, rfl, by decide +kernel, rfl, by decide +kernel, by decide +kernel⟩
theorem ck1 : chkSs sg f1.N (keepF f1.asg 3) (defScope (top 9)) f1.body (defBody (top 9)) = true := by decide +kernel
theorem bp1 : BindsP "is_between" (top 9) ["value", "low", "high"] := fun _ _ _ _ _ _ us hl => match us, hl with | [_, _, _], _ => rfl
theorem sc2 : FnScope f2.N ["value", "many"] (defScope (top 10)) := ⟨rfl, rfl, rfl, by decide +kernel, rfl, by decide +kernel, by decide +kernel⟩
theorem ck2 : chkSs sg f2.N (keepF f2.asg 2) (defScope (top 10)) f2.body (defBody (top 10)) = true := by decide +kernel
theorem bp2 : BindsP "is_tuple_of" (top 10) ["value", "many"] := fun _ _ _ _ _ _ us hl => match us, hl with | [_, _], _ => rfl
theorem sc3 : FnScope f3.N ["value"] (defScope (top 13)) := ⟨rfl, rfl, rfl, by decide +kernel, rfl, by decide +kernel, by decide +kernel⟩
theorem ck3 : chkSs sg f3.N (keepF f3.asg 1) (defScope (top 13)) f3.body (defBody (top 13)) = true := by decide +kernel
theorem bp3 : BindsP "is_ratio" (top 13) ["value"] := fun _ _ _ _ _ _ us hl => match us, hl with | [_], _ => rfl
theorem sc4 : FnScope f4.N ["top", "low"] (defScope (top 14)) := ⟨rfl, rfl, rfl, by decide +kernel, rfl, by decide +kernel, by decide +kernel⟩
theorem ck4 : chkSs sg f4.N (keepF f4.asg 2) (defScope (top 14)) f4.body (defBody (top 14)) = true := by decide +kernel
theorem bp4 : BindsP "ratio" (top 14) ["top", "low"] := fun _ _ _ _ _ _ us hl => match us, hl with | [_, _], _ => rfl
theorem sc5 : FnScope f5.N ["one", "two"] (defScope (top 15)) := ⟨rfl, rfl, rfl, by decide +kernel, rfl, by decide +kernel, by decide +kernel⟩
theorem ck5 : chkSs sg f5.N (keepF f5.asg 2) (defScope (top 15)) f5.body (defBody (top 15)) = true := by decide +kernel
theorem bp5 : BindsP "plus" (top 15) ["one", "two"] := fun _ _ _ _ _ _ us hl => match us, hl with | [_, _], _ => rfl
theorem sc6 : FnScope f6.N ["one", "two"] (defScope (top 16)) := ⟨rfl, rfl, rfl, by decide +kernel, rfl, by decide +kernel, by decide +kernel⟩
theorem ck6 : chkSs sg f6.N (keepF f6.asg 2) (defScope (top 16)) f6.body (defBody (top 16)) = true := by decide +kernel
theorem bp6 : BindsP "times" (top 16) ["one", "two"] := fun _ _ _ _ _ _ us hl => match us, hl with | [_, _], _ => rfl
theorem sc7 : FnScope f7.N ["fractions"] (defScope (top 17)) := ⟨rfl, rfl, rfl, by decide +kernel, rfl, by decide +kernel, by decide +kernel⟩
theorem ck7 : chkSs sg f7.N (keepF f7.asg 1) (defScope (top 17)) f7.body (defBody (top 17)) = true := by decide +kernel
theorem bp7 : BindsP "total" (top 17) ["fractions"] := fun _ _ _ _ _ _ us hl => match us, hl with | [_], _ => rfl
theorem sc8 : FnScope f8.N ["one", "two"] (defScope (top 18)) := ⟨rfl, rfl, rfl, by decide +kernel, rfl, by decide +kernel, by decide +kernel⟩
theorem ck8 : chkSs sg f8.N (keepF f8.asg 2) (defScope (top 18)) f8.body (defBody (top 18)) = true := by decide +kernel
theorem bp8 : BindsP "dot" (top 18) ["one", "two"] := fun _ _ _ _ _ _ us hl => match us, hl with | [_, _], _ => rfl
theorem sc9 : FnScope f9.N ["value", "many"] (defScope (top 19)) := ⟨rfl, rfl, rfl, by decide +kernel, rfl, by decide +kernel, by decide +kernel⟩
theorem ck9 : chkSs sg f9.N (keepF f9.asg 2) (defScope (top 19)) f9.body (defBody (top 19)) = true := by decide +kernel
theorem bp9 : BindsP "is_row" (top 19) ["value", "many"] := fun _ _ _ _ _ _ us hl => match us, hl with | [_, _], _ => rfl
theorem sc10 : FnScope f10.N ["value", "many"] (defScope (top 24)) := ⟨rfl, rfl, rfl, by decide +kernel, rfl, by decide +kernel, by decide +kernel⟩
theorem ck10 : chkSs sg f10.N (keepF f10.asg 2) (defScope (top 24)) f10.body (defBody (top 24)) = true := by decide +kernel
theorem bp10 : BindsP "are_blocks" (top 24) ["value", "many"] := fun _ _ _ _ _ _ us hl => match us, hl with | [_, _], _ => rfl
theorem sc11 : FnScope f11.N ["value"] (defScope (top 25)) := ⟨rfl, rfl, rfl, by decide +kernel, rfl, by decide +kernel, by decide +kernel⟩
theorem ck11 : chkSs sg f11.N (keepF f11.asg 1) (defScope (top 25)) f11.body (defBody (top 25)) = true := by decide +kernel
theorem bp11 : BindsP "are_plots" (top 25) ["value"] := fun _ _ _ _ _ _ us hl => match us, hl with | [_], _ => rfl
theorem sc12 : FnScope f12.N ["value"] (defScope (top 26)) := ⟨rfl, rfl, rfl, by decide +kernel, rfl, by decide +kernel, by decide +kernel⟩
theorem ck12 : chkSs sg f12.N (keepF f12.asg 1) (defScope (top 26)) f12.body (defBody (top 26)) = true := by decide +kernel
theorem bp12 : BindsP "is_trial_by" (top 26) ["value"] := fun _ _ _ _ _ _ us hl => match us, hl with | [_], _ => rfl
theorem sc13 : FnScope f13.N ["trial"] (defScope (top 27)) := ⟨rfl, rfl, rfl, by decide +kernel, rfl, by decide +kernel, by decide +kernel⟩
theorem ck13 : chkSs sg f13.N (keepF f13.asg 1) (defScope (top 27)) f13.body (defBody (top 27)) = true := by decide +kernel
theorem bp13 : BindsP "many_unknowns" (top 27) ["trial"] := fun _ _ _ _ _ _ us hl => match us, hl with | [_], _ => rfl
theorem sc14 : FnScope f14.N ["trial"] (defScope (top 28)) := ⟨rfl, rfl, rfl, by decide +kernel, rfl, by decide +kernel, by decide +kernel⟩
theorem ck14 : chkSs sg f14.N (keepF f14.asg 1) (defScope (top 28)) f14.body (defBody (top 28)) = true := by decide +kernel
theorem bp14 : BindsP "many_plots" (top 28) ["trial"] := fun _ _ _ _ _ _ us hl => match us, hl with | [_], _ => rfl
theorem sc15 : FnScope f15.N ["trial"] (defScope (top 29)) := ⟨rfl, rfl, rfl, by decide +kernel, rfl, by decide +kernel, by decide +kernel⟩
theorem ck15 : chkSs sg f15.N (keepF f15.asg 1) (defScope (top 29)) f15.body (defBody (top 29)) = true := by decide +kernel
theorem bp15 : BindsP "many_levels" (top 29) ["trial"] := fun _ _ _ _ _ _ us hl => match us, hl with | [_], _ => rfl
theorem sc16 : FnScope f16.N ["trial", "value"] (defScope (top 30)) := ⟨rfl, rfl, rfl, by decide +kernel, rfl, by decide +kernel, by decide +kernel⟩
theorem ck16 : chkSs sg f16.N (keepF f16.asg 2) (defScope (top 30)) f16.body (defBody (top 30)) = true := by decide +kernel
theorem bp16 : BindsP "is_world_by" (top 30) ["trial", "value"] := fun _ _ _ _ _ _ us hl => match us, hl with | [_, _], _ => rfl
theorem sc17 : FnScope f17.N ["trial", "value"] (defScope (top 31)) := ⟨rfl, rfl, rfl, by decide +kernel, rfl, by decide +kernel, by decide +kernel⟩
theorem ck17 : chkSs sg f17.N (keepF f17.asg 2) (defScope (top 31)) f17.body (defBody (top 31)) = true := by decide +kernel
theorem bp17 : BindsP "is_question_by" (top 31) ["trial", "value"] := fun _ _ _ _ _ _ us hl => match us, hl with | [_, _], _ => rfl
theorem sc18 : FnScope f18.N ["many", "value"] (defScope (top 32)) := ⟨rfl, rfl, rfl, by decide +kernel, rfl, by decide +kernel, by decide +kernel⟩
theorem ck18 : chkSs sg f18.N (keepF f18.asg 2) (defScope (top 32)) f18.body (defBody (top 32)) = true := by decide +kernel
theorem bp18 : BindsP "wrong_in_lot" (top 32) ["many", "value"] := fun _ _ _ _ _ _ us hl => match us, hl with | [_, _], _ => rfl
theorem sc19 : FnScope f19.N ["trial", "plot", "world"] (defScope (top 33)) := ⟨rfl, rfl, rfl, by decide +kernel, rfl, by decide +kernel, by decide +kernel⟩
theorem ck19 : chkSs sg f19.N (keepF f19.asg 3) (defScope (top 33)) f19.body (defBody (top 33)) = true := by decide +kernel
theorem bp19 : BindsP "yield_by" (top 33) ["trial", "plot", "world"] := fun _ _ _ _ _ _ us hl => match us, hl with | [_, _, _], _ => rfl
theorem sc20 : FnScope f20.N ["trial", "world"] (defScope (top 34)) := ⟨rfl, rfl, rfl, by decide +kernel, rfl, by decide +kernel, by decide +kernel⟩
theorem ck20 : chkSs sg f20.N (keepF f20.asg 2) (defScope (top 34)) f20.body (defBody (top 34)) = true := by decide +kernel
theorem bp20 : BindsP "yields_by" (top 34) ["trial", "world"] := fun _ _ _ _ _ _ us hl => match us, hl with | [_, _], _ => rfl
theorem sc21 : FnScope f21.N ["trial", "lot"] (defScope (top 35)) := ⟨rfl, rfl, rfl, by decide +kernel, rfl, by decide +kernel, by decide +kernel⟩
theorem ck21 : chkSs sg f21.N (keepF f21.asg 2) (defScope (top 35)) f21.body (defBody (top 35)) = true := by decide +kernel
theorem bp21 : BindsP "plots_by" (top 35) ["trial", "lot"] := fun _ _ _ _ _ _ us hl => match us, hl with | [_, _], _ => rfl
theorem sc22 : FnScope f22.N ["value"] (defScope (top 37)) := ⟨rfl, rfl, rfl, by decide +kernel, rfl, by decide +kernel, by decide +kernel⟩
theorem ck22 : chkSs sg f22.N (keepF f22.asg 1) (defScope (top 37)) f22.body (defBody (top 37)) = true := by decide +kernel
theorem bp22 : BindsP "check_trial" (top 37) ["value"] := fun _ _ _ _ _ _ us hl => match us, hl with | [_], _ => rfl
theorem sc23 : FnScope f23.N ["trial", "value"] (defScope (top 38)) := ⟨rfl, rfl, rfl, by decide +kernel, rfl, by decide +kernel, by decide +kernel⟩
theorem ck23 : chkSs sg f23.N (keepF f23.asg 2) (defScope (top 38)) f23.body (defBody (top 38)) = true := by decide +kernel
theorem bp23 : BindsP "check_world" (top 38) ["trial", "value"] := fun _ _ _ _ _ _ us hl => match us, hl with | [_, _], _ => rfl
theorem sc24 : FnScope f24.N ["trial", "value"] (defScope (top 39)) := ⟨rfl, rfl, rfl, by decide +kernel, rfl, by decide +kernel, by decide +kernel⟩
theorem ck24 : chkSs sg f24.N (keepF f24.asg 2) (defScope (top 39)) f24.body (defBody (top 39)) = true := by decide +kernel
theorem bp24 : BindsP "check_question" (top 39) ["trial", "value"] := fun _ _ _ _ _ _ us hl => match us, hl with | [_, _], _ => rfl
theorem sc25 : FnScope f25.N ["trial", "question"] (defScope (top 40)) := ⟨rfl, rfl, rfl, by decide +kernel, rfl, by decide +kernel, by decide +kernel⟩
theorem ck25 : chkSs sg f25.N (keepF f25.asg 2) (defScope (top 40)) f25.body (defBody (top 40)) = true := by decide +kernel
theorem bp25 : BindsP "check_asked" (top 40) ["trial", "question"] := fun _ _ _ _ _ _ us hl => match us, hl with | [_, _], _ => rfl
theorem sc26 : FnScope f26.N ["trial", "value"] (defScope (top 41)) := ⟨rfl, rfl, rfl, by decide +kernel, rfl, by decide +kernel, by decide +kernel⟩
theorem ck26 : chkSs sg f26.N (keepF f26.asg 2) (defScope (top 41)) f26.body (defBody (top 41)) = true := by decide +kernel
theorem bp26 : BindsP "check_lot" (top 41) ["trial", "value"] := fun _ _ _ _ _ _ us hl => match us, hl with | [_, _], _ => rfl
theorem sc27 : FnScope f27.N ["trial", "world"] (defScope (top 43)) := ⟨rfl, rfl, rfl, by decide +kernel, rfl, by decide +kernel, by decide +kernel⟩
theorem ck27 : chkSs sg f27.N (keepF f27.asg 2) (defScope (top 43)) f27.body (defBody (top 43)) = true := by decide +kernel
theorem bp27 : BindsP "yields" (top 43) ["trial", "world"] := fun _ _ _ _ _ _ us hl => match us, hl with | [_, _], _ => rfl
theorem bk27_0 : BindsK "yields" (top 43) ["trial", "world"] (["world", "trial"], [1, 0]) := fun _ _ _ _ _ _ ws us hl hu => match ws, hl with | [_, _], _ => by cases hu; rfl
theorem sc28 : FnScope f28.N ["trial", "question", "world"] (defScope (top 44)) := ⟨rfl, rfl, rfl, by decide +kernel, rfl, by decide +kernel, by decide +kernel⟩
theorem ck28 : chkSs sg f28.N (keepF f28.asg 3) (defScope (top 44)) f28.body (defBody (top 44)) = true := by decide +kernel
theorem bp28 : BindsP "answer" (top 44) ["trial", "question", "world"] := fun _ _ _ _ _ _ us hl => match us, hl with | [_, _, _], _ => rfl
theorem bk28_0 : BindsK "answer" (top 44) ["trial", "question", "world"] (["world", "question", "trial"], [2, 1, 0]) := fun _ _ _ _ _ _ ws us hl hu => match ws, hl with | [_, _, _], _ => by cases hu; rfl
theorem sc29 : FnScope f29.N ["trial", "lot"] (defScope (top 45)) := ⟨rfl, rfl, rfl, by decide +kernel, rfl, by decide +kernel, by decide +kernel⟩
theorem ck29 : chkSs sg f29.N (keepF f29.asg 2) (defScope (top 45)) f29.body (defBody (top 45)) = true := by decide +kernel
theorem bp29 : BindsP "plots_of" (top 45) ["trial", "lot"] := fun _ _ _ _ _ _ us hl => match us, hl with | [_, _], _ => rfl
theorem bk29_0 : BindsK "plots_of" (top 45) ["trial", "lot"] (["lot", "trial"], [1, 0]) := fun _ _ _ _ _ _ ws us hl hu => match ws, hl with | [_, _], _ => by cases hu; rfl
theorem sc30 : FnScope f30.N ["_law_script", "_law_lap"] (defScope (top 47)) := ⟨rfl, rfl, rfl, by decide +kernel, rfl, by decide +kernel, by decide +kernel⟩
theorem ck30 : chkSs sg f30.N (keepF f30.asg 2) (defScope (top 47)) f30.body (defBody (top 47)) = true := by decide +kernel
theorem bp30 : BindsP "_law_well" (top 47) ["_law_script", "_law_lap"] := fun _ _ _ _ _ _ us hl => match us, hl with | [_, _], _ => rfl
theorem sc31 : FnScope f31.N ["_law_well_here", "_law_few"] (defScope (top 48)) := ⟨rfl, rfl, rfl, by decide +kernel, rfl, by decide +kernel, by decide +kernel⟩
theorem ck31 : chkSs sg f31.N (keepF f31.asg 2) (defScope (top 48)) f31.body (defBody (top 48)) = true := by decide +kernel
theorem bp31 : BindsP "_law_draw" (top 48) ["_law_well_here", "_law_few"] := fun _ _ _ _ _ _ us hl => match us, hl with | [_, _], _ => rfl
theorem sc32 : FnScope f32.N ["_law_well_here", "_law_some"] (defScope (top 49)) := ⟨rfl, rfl, rfl, by decide +kernel, rfl, by decide +kernel, by decide +kernel⟩
theorem ck32 : chkSs sg f32.N (keepF f32.asg 2) (defScope (top 49)) f32.body (defBody (top 49)) = true := by decide +kernel
theorem bp32 : BindsP "_law_one" (top 49) ["_law_well_here", "_law_some"] := fun _ _ _ _ _ _ us hl => match us, hl with | [_, _], _ => rfl
theorem sc33 : FnScope f33.N ["_law_top", "_law_base"] (defScope (top 50)) := ⟨rfl, rfl, rfl, by decide +kernel, rfl, by decide +kernel, by decide +kernel⟩
theorem ck33 : chkSs sg f33.N (keepF f33.asg 2) (defScope (top 50)) f33.body (defBody (top 50)) = true := by decide +kernel
theorem bp33 : BindsP "_law_lean" (top 50) ["_law_top", "_law_base"] := fun _ _ _ _ _ _ us hl => match us, hl with | [_, _], _ => rfl
theorem sc34 : FnScope f34.N ["_law_x", "_law_y"] (defScope (top 51)) := ⟨rfl, rfl, rfl, by decide +kernel, rfl, by decide +kernel, by decide +kernel⟩
theorem ck34 : chkSs sg f34.N (keepF f34.asg 2) (defScope (top 51)) f34.body (defBody (top 51)) = true := by decide +kernel
theorem bp34 : BindsP "_law_plus" (top 51) ["_law_x", "_law_y"] := fun _ _ _ _ _ _ us hl => match us, hl with | [_, _], _ => rfl
theorem sc35 : FnScope f35.N ["_law_x", "_law_y"] (defScope (top 52)) := ⟨rfl, rfl, rfl, by decide +kernel, rfl, by decide +kernel, by decide +kernel⟩
theorem ck35 : chkSs sg f35.N (keepF f35.asg 2) (defScope (top 52)) f35.body (defBody (top 52)) = true := by decide +kernel
theorem bp35 : BindsP "_law_minus" (top 52) ["_law_x", "_law_y"] := fun _ _ _ _ _ _ us hl => match us, hl with | [_, _], _ => rfl
theorem sc36 : FnScope f36.N ["_law_x", "_law_y"] (defScope (top 53)) := ⟨rfl, rfl, rfl, by decide +kernel, rfl, by decide +kernel, by decide +kernel⟩
theorem ck36 : chkSs sg f36.N (keepF f36.asg 2) (defScope (top 53)) f36.body (defBody (top 53)) = true := by decide +kernel
theorem bp36 : BindsP "_law_times" (top 53) ["_law_x", "_law_y"] := fun _ _ _ _ _ _ us hl => match us, hl with | [_, _], _ => rfl
theorem sc37 : FnScope f37.N ["_law_one_here", "_law_two"] (defScope (top 54)) := ⟨rfl, rfl, rfl, by decide +kernel, rfl, by decide +kernel, by decide +kernel⟩
theorem ck37 : chkSs sg f37.N (keepF f37.asg 2) (defScope (top 54)) f37.body (defBody (top 54)) = true := by decide +kernel
theorem bp37 : BindsP "_law_dot" (top 54) ["_law_one_here", "_law_two"] := fun _ _ _ _ _ _ us hl => match us, hl with | [_, _], _ => rfl
theorem sc38 : FnScope f38.N ["_law_well_here"] (defScope (top 55)) := ⟨rfl, rfl, rfl, by decide +kernel, rfl, by decide +kernel, by decide +kernel⟩
theorem ck38 : chkSs sg f38.N (keepF f38.asg 1) (defScope (top 55)) f38.body (defBody (top 55)) = true := by decide +kernel
theorem bp38 : BindsP "_law_number" (top 55) ["_law_well_here"] := fun _ _ _ _ _ _ us hl => match us, hl with | [_], _ => rfl
theorem sc39 : FnScope f39.N ["_law_well_here", "_law_few"] (defScope (top 56)) := ⟨rfl, rfl, rfl, by decide +kernel, rfl, by decide +kernel, by decide +kernel⟩
theorem ck39 : chkSs sg f39.N (keepF f39.asg 2) (defScope (top 56)) f39.body (defBody (top 56)) = true := by decide +kernel
theorem bp39 : BindsP "_law_numbers" (top 56) ["_law_well_here", "_law_few"] := fun _ _ _ _ _ _ us hl => match us, hl with | [_, _], _ => rfl
theorem sc40 : FnScope f40.N ["_law_well_here", "_law_most"] (defScope (top 57)) := ⟨rfl, rfl, rfl, by decide +kernel, rfl, by decide +kernel, by decide +kernel⟩
theorem ck40 : chkSs sg f40.N (keepF f40.asg 2) (defScope (top 57)) f40.body (defBody (top 57)) = true := by decide +kernel
theorem bp40 : BindsP "_law_trial" (top 57) ["_law_well_here", "_law_most"] := fun _ _ _ _ _ _ us hl => match us, hl with | [_, _], _ => rfl
theorem sc41 : FnScope f41.N ["_law_trial_here"] (defScope (top 58)) := ⟨rfl, rfl, rfl, by decide +kernel, rfl, by decide +kernel, by decide +kernel⟩
theorem ck41 : chkSs sg f41.N (keepF f41.asg 1) (defScope (top 58)) f41.body (defBody (top 58)) = true := by decide +kernel
theorem bp41 : BindsP "_law_levels" (top 58) ["_law_trial_here"] := fun _ _ _ _ _ _ us hl => match us, hl with | [_], _ => rfl
theorem sc42 : FnScope f42.N ["_law_well_here", "_law_trial_here"] (defScope (top 59)) := ⟨rfl, rfl, rfl, by decide +kernel, rfl, by decide +kernel, by decide +kernel⟩
theorem ck42 : chkSs sg f42.N (keepF f42.asg 2) (defScope (top 59)) f42.body (defBody (top 59)) = true := by decide +kernel
theorem bp42 : BindsP "_law_world" (top 59) ["_law_well_here", "_law_trial_here"] := fun _ _ _ _ _ _ us hl => match us, hl with | [_, _], _ => rfl
theorem sc43 : FnScope f43.N ["_law_trial_here"] (defScope (top 60)) := ⟨rfl, rfl, rfl, by decide +kernel, rfl, by decide +kernel, by decide +kernel⟩
theorem ck43 : chkSs sg f43.N (keepF f43.asg 1) (defScope (top 60)) f43.body (defBody (top 60)) = true := by decide +kernel
theorem bp43 : BindsP "_law_long" (top 60) ["_law_trial_here"] := fun _ _ _ _ _ _ us hl => match us, hl with | [_], _ => rfl
theorem sc44 : FnScope f44.N ["_law_trial_here", "_law_world_here"] (defScope (top 61)) := ⟨rfl, rfl, rfl, by decide +kernel, rfl, by decide +kernel, by decide +kernel⟩
theorem ck44 : chkSs sg f44.N (keepF f44.asg 2) (defScope (top 61)) f44.body (defBody (top 61)) = true := by decide +kernel
theorem bp44 : BindsP "_law_yields" (top 61) ["_law_trial_here", "_law_world_here"] := fun _ _ _ _ _ _ us hl => match us, hl with | [_, _], _ => rfl
theorem sc45 : FnScope f45.N ["_law_well_here", "_law_trial_here"] (defScope (top 62)) := ⟨rfl, rfl, rfl, by decide +kernel, rfl, by decide +kernel, by decide +kernel⟩
theorem ck45 : chkSs sg f45.N (keepF f45.asg 2) (defScope (top 62)) f45.body (defBody (top 62)) = true := by decide +kernel
theorem bp45 : BindsP "_law_asked" (top 62) ["_law_well_here", "_law_trial_here"] := fun _ _ _ _ _ _ us hl => match us, hl with | [_, _], _ => rfl
theorem sc46 : FnScope f46.N ["_law_well_here", "_law_many"] (defScope (top 63)) := ⟨rfl, rfl, rfl, by decide +kernel, rfl, by decide +kernel, by decide +kernel⟩
theorem ck46 : chkSs sg f46.N (keepF f46.asg 2) (defScope (top 63)) f46.body (defBody (top 63)) = true := by decide +kernel
theorem bp46 : BindsP "_law_lot" (top 63) ["_law_well_here", "_law_many"] := fun _ _ _ _ _ _ us hl => match us, hl with | [_, _], _ => rfl
theorem sc47 : FnScope f47.N ["_law_well_here"] (defScope (top 64)) := ⟨rfl, rfl, rfl, by decide +kernel, rfl, by decide +kernel, by decide +kernel⟩
theorem ck47 : chkSs sg f47.N (keepF f47.asg 1) (defScope (top 64)) f47.body (defBody (top 64)) = true := by decide +kernel
theorem bp47 : BindsP "_law_right" (top 64) ["_law_well_here"] := fun _ _ _ _ _ _ us hl => match us, hl with | [_], _ => rfl
theorem sc48 : FnScope f48.N ["_law_script"] (defScope (top 65)) := ⟨rfl, rfl, rfl, by decide +kernel, rfl, by decide +kernel, by decide +kernel⟩
theorem ck48 : chkSs sg f48.N (keepF f48.asg 1) (defScope (top 65)) f48.body (defBody (top 65)) = true := by decide +kernel
theorem bp48 : BindsP "law" (top 65) ["_law_script"] := fun _ _ _ _ _ _ us hl => match us, hl with | [_], _ => rfl
def d0 : He.DefD := ⟨("is_whole", none), "is_whole", "is_whole", defArgs (top 8), defBody (top 8), defScope (top 8), [], []⟩
def d1 : He.DefD := ⟨("is_between", none), "is_between", "is_between", defArgs (top 9), defBody (top 9), defScope (top 9), [], []⟩
def d2 : He.DefD := ⟨("is_tuple_of", none), "is_tuple_of", "is_tuple_of", defArgs (top 10), defBody (top 10), defScope (top 10), [], []⟩
def d3 : He.DefD := ⟨("is_ratio", none), "is_ratio", "is_ratio", defArgs (top 13), defBody (top 13), defScope (top 13), [], []⟩
def d4 : He.DefD := ⟨("ratio", none), "ratio", "ratio", defArgs (top 14), defBody (top 14), defScope (top 14), [], []⟩
def d5 : He.DefD := ⟨("plus", none), "plus", "plus", defArgs (top 15), defBody (top 15), defScope (top 15), [], []⟩
def d6 : He.DefD := ⟨("times", none), "times", "times", defArgs (top 16), defBody (top 16), defScope (top 16), [], []⟩
def d7 : He.DefD := ⟨("total", none), "total", "total", defArgs (top 17), defBody (top 17), defScope (top 17), [], []⟩
def d8 : He.DefD := ⟨("dot", none), "dot", "dot", defArgs (top 18), defBody (top 18), defScope (top 18), [], []⟩
def d9 : He.DefD := ⟨("is_row", none), "is_row", "is_row", defArgs (top 19), defBody (top 19), defScope (top 19), [], []⟩
def d10 : He.DefD := ⟨("are_blocks", none), "are_blocks", "are_blocks", defArgs (top 24), defBody (top 24), defScope (top 24), [], []⟩
def d11 : He.DefD := ⟨("are_plots", none), "are_plots", "are_plots", defArgs (top 25), defBody (top 25), defScope (top 25), [], []⟩
def d12 : He.DefD := ⟨("is_trial_by", none), "is_trial_by", "is_trial_by", defArgs (top 26), defBody (top 26), defScope (top 26), [], []⟩
def d13 : He.DefD := ⟨("many_unknowns", none), "many_unknowns", "many_unknowns", defArgs (top 27), defBody (top 27), defScope (top 27), [], []⟩
def d14 : He.DefD := ⟨("many_plots", none), "many_plots", "many_plots", defArgs (top 28), defBody (top 28), defScope (top 28), [], []⟩
def d15 : He.DefD := ⟨("many_levels", none), "many_levels", "many_levels", defArgs (top 29), defBody (top 29), defScope (top 29), [], []⟩
def d16 : He.DefD := ⟨("is_world_by", none), "is_world_by", "is_world_by", defArgs (top 30), defBody (top 30), defScope (top 30), [], []⟩
def d17 : He.DefD := ⟨("is_question_by", none), "is_question_by", "is_question_by", defArgs (top 31), defBody (top 31), defScope (top 31), [], []⟩
def d18 : He.DefD := ⟨("wrong_in_lot", none), "wrong_in_lot", "wrong_in_lot", defArgs (top 32), defBody (top 32), defScope (top 32), [], []⟩
def d19 : He.DefD := ⟨("yield_by", none), "yield_by", "yield_by", defArgs (top 33), defBody (top 33), defScope (top 33), [], []⟩
def d20 : He.DefD := ⟨("yields_by", none), "yields_by", "yields_by", defArgs (top 34), defBody (top 34), defScope (top 34), [], []⟩
def d21 : He.DefD := ⟨("plots_by", none), "plots_by", "plots_by", defArgs (top 35), defBody (top 35), defScope (top 35), [], []⟩
def d22 : He.DefD := ⟨("check_trial", none), "check_trial", "check_trial", defArgs (top 37), defBody (top 37), defScope (top 37), [], []⟩
def d23 : He.DefD := ⟨("check_world", none), "check_world", "check_world", defArgs (top 38), defBody (top 38), defScope (top 38), [], []⟩
def d24 : He.DefD := ⟨("check_question", none), "check_question", "check_question", defArgs (top 39), defBody (top 39), defScope (top 39), [], []⟩
def d25 : He.DefD := ⟨("check_asked", none), "check_asked", "check_asked", defArgs (top 40), defBody (top 40), defScope (top 40), [], []⟩
def d26 : He.DefD := ⟨("check_lot", none), "check_lot", "check_lot", defArgs (top 41), defBody (top 41), defScope (top 41), [], []⟩
def d27 : He.DefD := ⟨("yields", none), "yields", "yields", defArgs (top 43), defBody (top 43), defScope (top 43), [], []⟩
def d28 : He.DefD := ⟨("answer", none), "answer", "answer", defArgs (top 44), defBody (top 44), defScope (top 44), [], []⟩
def d29 : He.DefD := ⟨("plots_of", none), "plots_of", "plots_of", defArgs (top 45), defBody (top 45), defScope (top 45), [], []⟩
def d30 : He.DefD := ⟨("_law_well", none), "_law_well", "_law_well", defArgs (top 47), defBody (top 47), defScope (top 47), [], []⟩
def d31 : He.DefD := ⟨("_law_draw", none), "_law_draw", "_law_draw", defArgs (top 48), defBody (top 48), defScope (top 48), [], []⟩
def d32 : He.DefD := ⟨("_law_one", none), "_law_one", "_law_one", defArgs (top 49), defBody (top 49), defScope (top 49), [], []⟩
def d33 : He.DefD := ⟨("_law_lean", none), "_law_lean", "_law_lean", defArgs (top 50), defBody (top 50), defScope (top 50), [], []⟩
def d34 : He.DefD := ⟨("_law_plus", none), "_law_plus", "_law_plus", defArgs (top 51), defBody (top 51), defScope (top 51), [], []⟩
def d35 : He.DefD := ⟨("_law_minus", none), "_law_minus", "_law_minus", defArgs (top 52), defBody (top 52), defScope (top 52), [], []⟩
def d36 : He.DefD := ⟨("_law_times", none), "_law_times", "_law_times", defArgs (top 53), defBody (top 53), defScope (top 53), [], []⟩
def d37 : He.DefD := ⟨("_law_dot", none), "_law_dot", "_law_dot", defArgs (top 54), defBody (top 54), defScope (top 54), [], []⟩
def d38 : He.DefD := ⟨("_law_number", none), "_law_number", "_law_number", defArgs (top 55), defBody (top 55), defScope (top 55), [], []⟩
def d39 : He.DefD := ⟨("_law_numbers", none), "_law_numbers", "_law_numbers", defArgs (top 56), defBody (top 56), defScope (top 56), [], []⟩
def d40 : He.DefD := ⟨("_law_trial", none), "_law_trial", "_law_trial", defArgs (top 57), defBody (top 57), defScope (top 57), [], []⟩
def d41 : He.DefD := ⟨("_law_levels", none), "_law_levels", "_law_levels", defArgs (top 58), defBody (top 58), defScope (top 58), [], []⟩
def d42 : He.DefD := ⟨("_law_world", none), "_law_world", "_law_world", defArgs (top 59), defBody (top 59), defScope (top 59), [], []⟩
def d43 : He.DefD := ⟨("_law_long", none), "_law_long", "_law_long", defArgs (top 60), defBody (top 60), defScope (top 60), [], []⟩
def d44 : He.DefD := ⟨("_law_yields", none), "_law_yields", "_law_yields", defArgs (top 61), defBody (top 61), defScope (top 61), [], []⟩
def d45 : He.DefD := ⟨("_law_asked", none), "_law_asked", "_law_asked", defArgs (top 62), defBody (top 62), defScope (top 62), [], []⟩
def d46 : He.DefD := ⟨("_law_lot", none), "_law_lot", "_law_lot", defArgs (top 63), defBody (top 63), defScope (top 63), [], []⟩
def d47 : He.DefD := ⟨("_law_right", none), "_law_right", "_law_right", defArgs (top 64), defBody (top 64), defScope (top 64), [], []⟩
def d48 : He.DefD := ⟨("law", none), "law", "law", defArgs (top 65), defBody (top 65), defScope (top 65), [], []⟩
def dn : List He.DefD := [d0, d1, d2, d3, d4, d5, d6, d7, d8, d9, d10, d11, d12, d13, d14, d15, d16, d17, d18, d19, d20, d21, d22, d23, d24, d25, d26, d27, d28, d29, d30, d31, d32, d33, d34, d35, d36, d37, d38, d39, d40, d41, d42, d43, d44, d45, d46, d47, d48]
def fc : List He.Fa := [.glo "is_whole", .glo "is_between", .glo "is_tuple_of", .glo "is_ratio", .glo "ratio", .glo "plus", .glo "times", .glo "total", .glo "dot", .glo "is_row", .glo "are_blocks", .glo "are_plots", .glo "is_trial_by", .glo "many_unknowns", .glo "many_plots", .glo "many_levels", .glo "is_world_by", .glo "is_question_by", .glo "wrong_in_lot", .glo "yield_by", .glo "yields_by", .glo "plots_by", .glo "check_trial", .glo "check_world", .glo "check_question", .glo "check_asked", .glo "check_lot", .glo "yields", .glo "answer", .glo "plots_of", .glo "_law_well", .glo "_law_draw", .glo "_law_one", .glo "_law_lean", .glo "_law_plus", .glo "_law_minus", .glo "_law_times", .glo "_law_dot", .glo "_law_number", .glo "_law_numbers", .glo "_law_trial", .glo "_law_levels", .glo "_law_world", .glo "_law_long", .glo "_law_yields", .glo "_law_asked", .glo "_law_lot", .glo "_law_right", .glo "law"]
def nm0 : List Str := ["TrialError", "InvalidTrial", "InvalidWorld", "InvalidQuestion", "InvalidLot", "is_whole", "is_between", "is_tuple_of", "ZERO", "is_ratio", "ratio", "plus", "times", "total", "dot", "is_row", "MOST_PLOTS", "MOST_UNKNOWNS", "MOST_BLOCK", "are_blocks", "are_plots", "is_trial_by", "many_unknowns", "many_plots", "many_levels", "is_world_by", "is_question_by", "wrong_in_lot", "yield_by", "yields_by"]
def nm1 : List Str := ["plots_by", "check_trial", "check_world", "check_question", "check_asked", "check_lot", "yields", "answer", "plots_of", "_law_well", "_law_draw", "_law_one", "_law_lean", "_law_plus", "_law_minus", "_law_times", "_law_dot", "_law_number", "_law_numbers", "_law_trial", "_law_levels", "_law_world", "_law_long", "_law_yields", "_law_asked", "_law_lot", "_law_right"]
def nms : List Str := nm0 ++ nm1
abbrev R : PySem.W.OpenRow := PySem.W.OpenLaw.row PySem.Challenge.rw_trialground_k03_whole_yields_answers_plo
abbrev hk : PySem.W.Hook := hookM 6 fc dn gv
def ob (s : PySem.W.SharedT) : He.AlD × Bool := obM 6 fc dn gv (HandSHeadRun.getT s)
theorem ob_eq (s : PySem.W.SharedT) : ob s = hk.obs s.abs := obM_eq (HandSHeadRun.getT_eq s)
theorem run (w : World) : HandSHeadRun.RunEqI R (PySem.W.view R.prog [0, 65]) hk ob 4360 nms w := by
  unfold HandSHeadRun.RunEqI
  kernel_rfl
theorem defs_at {K : PySem.W.Frag} {h : Heap} {mg : Str → Option Value} (X : K.In h) (G : h.Ns mainGlobals mg) (c : He.SaysD fc dn K) : DefsAt K mg sg tab fs := by
  have e : ∀ (i : Nat) (x : Str), fc[i]? = some (.glo x) → mg x = some (.ref (He.ga K x)) := fun i x h => He.glo_ok X G (c.fact i h)
  obtain ⟨fd0, F0⟩ := c.def_ 0 (d := d0) rfl
  have G0 : Fun K "is_whole" "is_whole" (top 8) (He.ga K "is_whole") fd0 := fun_of_D (kws := []) F0
  refine .cons ⟨_, fd0, defAt_mk (e 0 _ rfl) G0 sc0 rfl ck0 bp0 (fun q hq => by cases hq)⟩ ?_
  obtain ⟨fd1, F1⟩ := c.def_ 1 (d := d1) rfl
  have G1 : Fun K "is_between" "is_between" (top 9) (He.ga K "is_between") fd1 := fun_of_D (kws := []) F1
  refine .cons ⟨_, fd1, defAt_mk (e 1 _ rfl) G1 sc1 rfl ck1 bp1 (fun q hq => by cases hq)⟩ ?_
  obtain ⟨fd2, F2⟩ := c.def_ 2 (d := d2) rfl
  have G2 : Fun K "is_tuple_of" "is_tuple_of" (top 10) (He.ga K "is_tuple_of") fd2 := fun_of_D (kws := []) F2
  refine .cons ⟨_, fd2, defAt_mk (e 2 _ rfl) G2 sc2 rfl ck2 bp2 (fun q hq => by cases hq)⟩ ?_
  obtain ⟨fd3, F3⟩ := c.def_ 3 (d := d3) rfl
  have G3 : Fun K "is_ratio" "is_ratio" (top 13) (He.ga K "is_ratio") fd3 := fun_of_D (kws := []) F3
  refine .cons ⟨_, fd3, defAt_mk (e 3 _ rfl) G3 sc3 rfl ck3 bp3 (fun q hq => by cases hq)⟩ ?_
  obtain ⟨fd4, F4⟩ := c.def_ 4 (d := d4) rfl
  have G4 : Fun K "ratio" "ratio" (top 14) (He.ga K "ratio") fd4 := fun_of_D (kws := []) F4
  refine .cons ⟨_, fd4, defAt_mk (e 4 _ rfl) G4 sc4 rfl ck4 bp4 (fun q hq => by cases hq)⟩ ?_
  obtain ⟨fd5, F5⟩ := c.def_ 5 (d := d5) rfl
  have G5 : Fun K "plus" "plus" (top 15) (He.ga K "plus") fd5 := fun_of_D (kws := []) F5
  refine .cons ⟨_, fd5, defAt_mk (e 5 _ rfl) G5 sc5 rfl ck5 bp5 (fun q hq => by cases hq)⟩ ?_
  obtain ⟨fd6, F6⟩ := c.def_ 6 (d := d6) rfl
  have G6 : Fun K "times" "times" (top 16) (He.ga K "times") fd6 := fun_of_D (kws := []) F6
  refine .cons ⟨_, fd6, defAt_mk (e 6 _ rfl) G6 sc6 rfl ck6 bp6 (fun q hq => by cases hq)⟩ ?_
  obtain ⟨fd7, F7⟩ := c.def_ 7 (d := d7) rfl
  have G7 : Fun K "total" "total" (top 17) (He.ga K "total") fd7 := fun_of_D (kws := []) F7
  refine .cons ⟨_, fd7, defAt_mk (e 7 _ rfl) G7 sc7 rfl ck7 bp7 (fun q hq => by cases hq)⟩ ?_
  obtain ⟨fd8, F8⟩ := c.def_ 8 (d := d8) rfl
  have G8 : Fun K "dot" "dot" (top 18) (He.ga K "dot") fd8 := fun_of_D (kws := []) F8
  refine .cons ⟨_, fd8, defAt_mk (e 8 _ rfl) G8 sc8 rfl ck8 bp8 (fun q hq => by cases hq)⟩ ?_
  obtain ⟨fd9, F9⟩ := c.def_ 9 (d := d9) rfl
  have G9 : Fun K "is_row" "is_row" (top 19) (He.ga K "is_row") fd9 := fun_of_D (kws := []) F9
  refine .cons ⟨_, fd9, defAt_mk (e 9 _ rfl) G9 sc9 rfl ck9 bp9 (fun q hq => by cases hq)⟩ ?_
  obtain ⟨fd10, F10⟩ := c.def_ 10 (d := d10) rfl
  have G10 : Fun K "are_blocks" "are_blocks" (top 24) (He.ga K "are_blocks") fd10 := fun_of_D (kws := []) F10
  refine .cons ⟨_, fd10, defAt_mk (e 10 _ rfl) G10 sc10 rfl ck10 bp10 (fun q hq => by cases hq)⟩ ?_
  obtain ⟨fd11, F11⟩ := c.def_ 11 (d := d11) rfl
  have G11 : Fun K "are_plots" "are_plots" (top 25) (He.ga K "are_plots") fd11 := fun_of_D (kws := []) F11
  refine .cons ⟨_, fd11, defAt_mk (e 11 _ rfl) G11 sc11 rfl ck11 bp11 (fun q hq => by cases hq)⟩ ?_
  obtain ⟨fd12, F12⟩ := c.def_ 12 (d := d12) rfl
  have G12 : Fun K "is_trial_by" "is_trial_by" (top 26) (He.ga K "is_trial_by") fd12 := fun_of_D (kws := []) F12
  refine .cons ⟨_, fd12, defAt_mk (e 12 _ rfl) G12 sc12 rfl ck12 bp12 (fun q hq => by cases hq)⟩ ?_
  obtain ⟨fd13, F13⟩ := c.def_ 13 (d := d13) rfl
  have G13 : Fun K "many_unknowns" "many_unknowns" (top 27) (He.ga K "many_unknowns") fd13 := fun_of_D (kws := []) F13
  refine .cons ⟨_, fd13, defAt_mk (e 13 _ rfl) G13 sc13 rfl ck13 bp13 (fun q hq => by cases hq)⟩ ?_
  obtain ⟨fd14, F14⟩ := c.def_ 14 (d := d14) rfl
  have G14 : Fun K "many_plots" "many_plots" (top 28) (He.ga K "many_plots") fd14 := fun_of_D (kws := []) F14
  refine .cons ⟨_, fd14, defAt_mk (e 14 _ rfl) G14 sc14 rfl ck14 bp14 (fun q hq => by cases hq)⟩ ?_
  obtain ⟨fd15, F15⟩ := c.def_ 15 (d := d15) rfl
  have G15 : Fun K "many_levels" "many_levels" (top 29) (He.ga K "many_levels") fd15 := fun_of_D (kws := []) F15
  refine .cons ⟨_, fd15, defAt_mk (e 15 _ rfl) G15 sc15 rfl ck15 bp15 (fun q hq => by cases hq)⟩ ?_
  obtain ⟨fd16, F16⟩ := c.def_ 16 (d := d16) rfl
  have G16 : Fun K "is_world_by" "is_world_by" (top 30) (He.ga K "is_world_by") fd16 := fun_of_D (kws := []) F16
  refine .cons ⟨_, fd16, defAt_mk (e 16 _ rfl) G16 sc16 rfl ck16 bp16 (fun q hq => by cases hq)⟩ ?_
  obtain ⟨fd17, F17⟩ := c.def_ 17 (d := d17) rfl
  have G17 : Fun K "is_question_by" "is_question_by" (top 31) (He.ga K "is_question_by") fd17 := fun_of_D (kws := []) F17
  refine .cons ⟨_, fd17, defAt_mk (e 17 _ rfl) G17 sc17 rfl ck17 bp17 (fun q hq => by cases hq)⟩ ?_
  obtain ⟨fd18, F18⟩ := c.def_ 18 (d := d18) rfl
  have G18 : Fun K "wrong_in_lot" "wrong_in_lot" (top 32) (He.ga K "wrong_in_lot") fd18 := fun_of_D (kws := []) F18
  refine .cons ⟨_, fd18, defAt_mk (e 18 _ rfl) G18 sc18 rfl ck18 bp18 (fun q hq => by cases hq)⟩ ?_
  obtain ⟨fd19, F19⟩ := c.def_ 19 (d := d19) rfl
  have G19 : Fun K "yield_by" "yield_by" (top 33) (He.ga K "yield_by") fd19 := fun_of_D (kws := []) F19
  refine .cons ⟨_, fd19, defAt_mk (e 19 _ rfl) G19 sc19 rfl ck19 bp19 (fun q hq => by cases hq)⟩ ?_
  obtain ⟨fd20, F20⟩ := c.def_ 20 (d := d20) rfl
  have G20 : Fun K "yields_by" "yields_by" (top 34) (He.ga K "yields_by") fd20 := fun_of_D (kws := []) F20
  refine .cons ⟨_, fd20, defAt_mk (e 20 _ rfl) G20 sc20 rfl ck20 bp20 (fun q hq => by cases hq)⟩ ?_
  obtain ⟨fd21, F21⟩ := c.def_ 21 (d := d21) rfl
  have G21 : Fun K "plots_by" "plots_by" (top 35) (He.ga K "plots_by") fd21 := fun_of_D (kws := []) F21
  refine .cons ⟨_, fd21, defAt_mk (e 21 _ rfl) G21 sc21 rfl ck21 bp21 (fun q hq => by cases hq)⟩ ?_
  obtain ⟨fd22, F22⟩ := c.def_ 22 (d := d22) rfl
  have G22 : Fun K "check_trial" "check_trial" (top 37) (He.ga K "check_trial") fd22 := fun_of_D (kws := []) F22
  refine .cons ⟨_, fd22, defAt_mk (e 22 _ rfl) G22 sc22 rfl ck22 bp22 (fun q hq => by cases hq)⟩ ?_
  obtain ⟨fd23, F23⟩ := c.def_ 23 (d := d23) rfl
  have G23 : Fun K "check_world" "check_world" (top 38) (He.ga K "check_world") fd23 := fun_of_D (kws := []) F23
  refine .cons ⟨_, fd23, defAt_mk (e 23 _ rfl) G23 sc23 rfl ck23 bp23 (fun q hq => by cases hq)⟩ ?_
  obtain ⟨fd24, F24⟩ := c.def_ 24 (d := d24) rfl
  have G24 : Fun K "check_question" "check_question" (top 39) (He.ga K "check_question") fd24 := fun_of_D (kws := []) F24
  refine .cons ⟨_, fd24, defAt_mk (e 24 _ rfl) G24 sc24 rfl ck24 bp24 (fun q hq => by cases hq)⟩ ?_
  obtain ⟨fd25, F25⟩ := c.def_ 25 (d := d25) rfl
  have G25 : Fun K "check_asked" "check_asked" (top 40) (He.ga K "check_asked") fd25 := fun_of_D (kws := []) F25
  refine .cons ⟨_, fd25, defAt_mk (e 25 _ rfl) G25 sc25 rfl ck25 bp25 (fun q hq => by cases hq)⟩ ?_
  obtain ⟨fd26, F26⟩ := c.def_ 26 (d := d26) rfl
  have G26 : Fun K "check_lot" "check_lot" (top 41) (He.ga K "check_lot") fd26 := fun_of_D (kws := []) F26
  refine .cons ⟨_, fd26, defAt_mk (e 26 _ rfl) G26 sc26 rfl ck26 bp26 (fun q hq => by cases hq)⟩ ?_
  obtain ⟨fd27, F27⟩ := c.def_ 27 (d := d27) rfl
  have G27 : Fun K "yields" "yields" (top 43) (He.ga K "yields") fd27 := fun_of_D (kws := []) F27
  refine .cons ⟨_, fd27, defAt_mk (e 27 _ rfl) G27 sc27 rfl ck27 bp27 (fun q hq => by
    simp only [List.mem_cons, List.not_mem_nil, or_false] at hq
    subst hq
    exact bk27_0)⟩ ?_
  obtain ⟨fd28, F28⟩ := c.def_ 28 (d := d28) rfl
  have G28 : Fun K "answer" "answer" (top 44) (He.ga K "answer") fd28 := fun_of_D (kws := []) F28
  refine .cons ⟨_, fd28, defAt_mk (e 28 _ rfl) G28 sc28 rfl ck28 bp28 (fun q hq => by
    simp only [List.mem_cons, List.not_mem_nil, or_false] at hq
    subst hq
    exact bk28_0)⟩ ?_
  obtain ⟨fd29, F29⟩ := c.def_ 29 (d := d29) rfl
  have G29 : Fun K "plots_of" "plots_of" (top 45) (He.ga K "plots_of") fd29 := fun_of_D (kws := []) F29
  refine .cons ⟨_, fd29, defAt_mk (e 29 _ rfl) G29 sc29 rfl ck29 bp29 (fun q hq => by
    simp only [List.mem_cons, List.not_mem_nil, or_false] at hq
    subst hq
    exact bk29_0)⟩ ?_
  obtain ⟨fd30, F30⟩ := c.def_ 30 (d := d30) rfl
  have G30 : Fun K "_law_well" "_law_well" (top 47) (He.ga K "_law_well") fd30 := fun_of_D (kws := []) F30
  refine .cons ⟨_, fd30, defAt_mk (e 30 _ rfl) G30 sc30 rfl ck30 bp30 (fun q hq => by cases hq)⟩ ?_
  obtain ⟨fd31, F31⟩ := c.def_ 31 (d := d31) rfl
  have G31 : Fun K "_law_draw" "_law_draw" (top 48) (He.ga K "_law_draw") fd31 := fun_of_D (kws := []) F31
  refine .cons ⟨_, fd31, defAt_mk (e 31 _ rfl) G31 sc31 rfl ck31 bp31 (fun q hq => by cases hq)⟩ ?_
  obtain ⟨fd32, F32⟩ := c.def_ 32 (d := d32) rfl
  have G32 : Fun K "_law_one" "_law_one" (top 49) (He.ga K "_law_one") fd32 := fun_of_D (kws := []) F32
  refine .cons ⟨_, fd32, defAt_mk (e 32 _ rfl) G32 sc32 rfl ck32 bp32 (fun q hq => by cases hq)⟩ ?_
  obtain ⟨fd33, F33⟩ := c.def_ 33 (d := d33) rfl
  have G33 : Fun K "_law_lean" "_law_lean" (top 50) (He.ga K "_law_lean") fd33 := fun_of_D (kws := []) F33
  refine .cons ⟨_, fd33, defAt_mk (e 33 _ rfl) G33 sc33 rfl ck33 bp33 (fun q hq => by cases hq)⟩ ?_
  obtain ⟨fd34, F34⟩ := c.def_ 34 (d := d34) rfl
  have G34 : Fun K "_law_plus" "_law_plus" (top 51) (He.ga K "_law_plus") fd34 := fun_of_D (kws := []) F34
  refine .cons ⟨_, fd34, defAt_mk (e 34 _ rfl) G34 sc34 rfl ck34 bp34 (fun q hq => by cases hq)⟩ ?_
  obtain ⟨fd35, F35⟩ := c.def_ 35 (d := d35) rfl
  have G35 : Fun K "_law_minus" "_law_minus" (top 52) (He.ga K "_law_minus") fd35 := fun_of_D (kws := []) F35
  refine .cons ⟨_, fd35, defAt_mk (e 35 _ rfl) G35 sc35 rfl ck35 bp35 (fun q hq => by cases hq)⟩ ?_
  obtain ⟨fd36, F36⟩ := c.def_ 36 (d := d36) rfl
  have G36 : Fun K "_law_times" "_law_times" (top 53) (He.ga K "_law_times") fd36 := fun_of_D (kws := []) F36
  refine .cons ⟨_, fd36, defAt_mk (e 36 _ rfl) G36 sc36 rfl ck36 bp36 (fun q hq => by cases hq)⟩ ?_
  obtain ⟨fd37, F37⟩ := c.def_ 37 (d := d37) rfl
  have G37 : Fun K "_law_dot" "_law_dot" (top 54) (He.ga K "_law_dot") fd37 := fun_of_D (kws := []) F37
  refine .cons ⟨_, fd37, defAt_mk (e 37 _ rfl) G37 sc37 rfl ck37 bp37 (fun q hq => by cases hq)⟩ ?_
  obtain ⟨fd38, F38⟩ := c.def_ 38 (d := d38) rfl
  have G38 : Fun K "_law_number" "_law_number" (top 55) (He.ga K "_law_number") fd38 := fun_of_D (kws := []) F38
  refine .cons ⟨_, fd38, defAt_mk (e 38 _ rfl) G38 sc38 rfl ck38 bp38 (fun q hq => by cases hq)⟩ ?_
  obtain ⟨fd39, F39⟩ := c.def_ 39 (d := d39) rfl
  have G39 : Fun K "_law_numbers" "_law_numbers" (top 56) (He.ga K "_law_numbers") fd39 := fun_of_D (kws := []) F39
  refine .cons ⟨_, fd39, defAt_mk (e 39 _ rfl) G39 sc39 rfl ck39 bp39 (fun q hq => by cases hq)⟩ ?_
  obtain ⟨fd40, F40⟩ := c.def_ 40 (d := d40) rfl
  have G40 : Fun K "_law_trial" "_law_trial" (top 57) (He.ga K "_law_trial") fd40 := fun_of_D (kws := []) F40
  refine .cons ⟨_, fd40, defAt_mk (e 40 _ rfl) G40 sc40 rfl ck40 bp40 (fun q hq => by cases hq)⟩ ?_
  obtain ⟨fd41, F41⟩ := c.def_ 41 (d := d41) rfl
  have G41 : Fun K "_law_levels" "_law_levels" (top 58) (He.ga K "_law_levels") fd41 := fun_of_D (kws := []) F41
  refine .cons ⟨_, fd41, defAt_mk (e 41 _ rfl) G41 sc41 rfl ck41 bp41 (fun q hq => by cases hq)⟩ ?_
  obtain ⟨fd42, F42⟩ := c.def_ 42 (d := d42) rfl
  have G42 : Fun K "_law_world" "_law_world" (top 59) (He.ga K "_law_world") fd42 := fun_of_D (kws := []) F42
  refine .cons ⟨_, fd42, defAt_mk (e 42 _ rfl) G42 sc42 rfl ck42 bp42 (fun q hq => by cases hq)⟩ ?_
  obtain ⟨fd43, F43⟩ := c.def_ 43 (d := d43) rfl
  have G43 : Fun K "_law_long" "_law_long" (top 60) (He.ga K "_law_long") fd43 := fun_of_D (kws := []) F43
  refine .cons ⟨_, fd43, defAt_mk (e 43 _ rfl) G43 sc43 rfl ck43 bp43 (fun q hq => by cases hq)⟩ ?_
  obtain ⟨fd44, F44⟩ := c.def_ 44 (d := d44) rfl
  have G44 : Fun K "_law_yields" "_law_yields" (top 61) (He.ga K "_law_yields") fd44 := fun_of_D (kws := []) F44
  refine .cons ⟨_, fd44, defAt_mk (e 44 _ rfl) G44 sc44 rfl ck44 bp44 (fun q hq => by cases hq)⟩ ?_
  obtain ⟨fd45, F45⟩ := c.def_ 45 (d := d45) rfl
  have G45 : Fun K "_law_asked" "_law_asked" (top 62) (He.ga K "_law_asked") fd45 := fun_of_D (kws := []) F45
  refine .cons ⟨_, fd45, defAt_mk (e 45 _ rfl) G45 sc45 rfl ck45 bp45 (fun q hq => by cases hq)⟩ ?_
  obtain ⟨fd46, F46⟩ := c.def_ 46 (d := d46) rfl
  have G46 : Fun K "_law_lot" "_law_lot" (top 63) (He.ga K "_law_lot") fd46 := fun_of_D (kws := []) F46
  refine .cons ⟨_, fd46, defAt_mk (e 46 _ rfl) G46 sc46 rfl ck46 bp46 (fun q hq => by cases hq)⟩ ?_
  obtain ⟨fd47, F47⟩ := c.def_ 47 (d := d47) rfl
  have G47 : Fun K "_law_right" "_law_right" (top 64) (He.ga K "_law_right") fd47 := fun_of_D (kws := []) F47
  refine .cons ⟨_, fd47, defAt_mk (e 47 _ rfl) G47 sc47 rfl ck47 bp47 (fun q hq => by cases hq)⟩ ?_
  obtain ⟨fd48, F48⟩ := c.def_ 48 (d := d48) rfl
  have G48 : Fun K "law" "law" (top 65) (He.ga K "law") fd48 := fun_of_D (kws := []) F48
  refine .cons ⟨_, fd48, defAt_mk (e 48 _ rfl) G48 sc48 rfl ck48 bp48 (fun q hq => by cases hq)⟩ ?_
  exact .nil
theorem tab_at {K : PySem.W.Frag} {h : Heap} {mg : Str → Option Value} (X : K.In h) (G : h.Ns mainGlobals mg) (c : He.SaysD fc dn K) (e1 : globs K gv = true) (e2 : freeAll K = true) : TabAt K mg sg tab (glOf gv) :=
  tab_of X G rfl (by decide +kernel) e1 e2 (by decide +kernel) (defs_at X G c)
end LaK03
set_option Elab.async false
set_option linter.all false
set_option maxRecDepth 100000
set_option maxHeartbeats 1000000
namespace LaK03
open PySem PySem.Spec Eng L2
theorem e_is_whole (n : Nat) (a : D) : (C (n + 1)).fn 0 [.d a] = some (.d (.bool (isWhole a)), [.d a]) := by
  cases a <;> rfl
theorem e_is_between (n : Nat) (a : D) (lo hi : Int) : (C (n + 2)).fn 1 [.d a, .d (.int lo), .d (.int hi)] = some (.d (.bool (isBetween a lo hi)), [.d a, .d (.int lo), .d (.int hi)]) := by
  rw [show ∀ m xs, (C (m + 1)).fn 1 xs = runF (C m) f1 xs from fun _ _ => rfl, run_f _ _ _ ⟨rfl, rfl⟩]
  simp_arith only [f1, e_is_whole]
  cases a with
  | int i =>
    simp_arith only [isWhole, isBetween]
    cases decide (lo ≤ i) <;> simp_arith only [Bool.true_and, Bool.false_and]
  | _ => rfl
theorem e_is_tuple_of (n : Nat) (a : D) (m : Int) : (C (n + 1)).fn 2 [.d a, .d (.int m)] = some (.d (.bool (tupOf a m)), [.d a, .d (.int m)]) := by
  rw [show ∀ m xs, (C (m + 1)).fn 2 xs = runF (C m) f2 xs from fun _ _ => rfl, run_f _ _ _ ⟨rfl, rfl⟩]
  simp_arith only [f2]
  cases a with
  | tuple xs =>
    simp_arith only [isA, tyOf, tupOf, eqI]
    rfl
  | _ => rfl

end LaK03
set_option Elab.async false
set_option linter.all false
set_option maxRecDepth 100000
set_option maxHeartbeats 1000000
namespace LaK03
open PySem PySem.Spec Eng L2
theorem e_is_ratio (n : Nat) (a : D) : (C (n + 2)).fn 3 [.d a] = some (.d (.bool (isRatio a)), [.d a]) := by
  rw [show ∀ m xs, (C (m + 1)).fn 3 xs = runF (C m) f3 xs from fun _ _ => rfl, run_f _ _ _ ⟨rfl, rfl⟩]
  simp_arith only [f3, i3_0, e_is_tuple_of]
  cases h : tupOf a 2 with
  | false =>
    simp_arith only []
    have : isRatio a = false := by
      unfold isRatio
      split
      · simp [tupOf] at h
      · rfl
    rw [this]
  | true =>
    obtain ⟨x, y, rfl⟩ := tup2 h
    simp_arith only [at0, at1, e_is_whole]
    cases hx : isWhole x with
    | false =>
      simp_arith only []
      cases x <;> first | rfl | cases hx
    | true =>
      obtain ⟨p, rfl⟩ := whole_int hx
      simp_arith only []
      cases hy : isWhole y with
      | false =>
        simp_arith only []
        cases y <;> first | rfl | cases hy
      | true =>
        obtain ⟨q, rfl⟩ := whole_int hy
        simp_arith only [at0, at1, isRatio, eqI]
        have e : decide (((Int.gcd p q : Nat) : Int) = 1) = decide (Int.gcd p q = 1) := decide_eq_decide.mpr ⟨fun h => by omega, fun h => by omega⟩
        cases decide (0 < q) <;> simp_arith only [e, Bool.true_and, Bool.false_and]
theorem e_is_row (n : Nat) (a : D) (m : Int) (hs : short a) : (C (n + 3)).fn 9 [.d a, .d (.int m)] = some (.d (.bool (isRow a m)), [.d a, .d (.int m)]) := by
  rw [show ∀ m xs, (C (m + 1)).fn 9 xs = runF (C m) f9 xs from fun _ _ => rfl, run_f _ _ _ ⟨rfl, rfl⟩]
  simp_arith only [f9, e_is_tuple_of]
  cases a with
  | tuple xs =>
    simp_arith only [tupOf, isRow]
    rcases Bool.eq_false_or_eq_true (decide ((xs.length : Int) = m)) with hd | hd
    rotate_left
    · simp_arith only [hd, Bool.false_and]
    · simp_arith only [hd, Bool.true_and, if_pos (hs xs rfl)]
      rw [lc_map (g := fun t => PyData.bool (isRatio t))]
      · simp_arith only [bools_map, List.all_map]
        rfl
      · exact fun t ht => ⟨_, _, _, _, rfl, rfl, by simp_arith only [e_is_ratio]; rfl, rfl, rfl⟩
  | _ => rfl

end LaK03
set_option Elab.async false
set_option linter.all false
set_option maxRecDepth 100000
set_option maxHeartbeats 1000000
namespace LaK03
open PySem PySem.Spec Eng L2
theorem g_MOST_BLOCK : glOf gv 2 = some (.int 4) := rfl
theorem g_MOST_UNKNOWNS : glOf gv 3 = some (.int 5) := rfl
theorem g_MOST_PLOTS : glOf gv 4 = some (.int 10) := rfl
theorem e_are_blocks (n : Nat) (a : D) (m : Int) (hs : short a) : (C (n + 3)).fn 10 [.d a, .d (.int m)] = some (.d (.bool (areBlocks a m)), [.d a, .d (.int m)]) := by
  rw [show ∀ m xs, (C (m + 1)).fn 10 xs = runF (C m) f10 xs from fun _ _ => rfl, run_f _ _ _ ⟨rfl, rfl⟩]
  simp_arith only [f10, i10_0]
  cases a with
  | tuple xs =>
    simp_arith only [isA, tyOf, areBlocks, eqT0, eqI]
    simp_arith (decide := true) only [eqT0, eqI, g_MOST_BLOCK]
    cases he : xs.isEmpty with
    | true => simp_arith only [Bool.true_or]
    | false =>
      simp_arith only [Bool.false_or]
      rcases Bool.eq_false_or_eq_true (decide ((xs.length : Int) = m)) with hd | hd
      rotate_left
      · simp_arith only [hd, Bool.false_and]
      · simp_arith only [hd, Bool.true_and, if_pos (hs xs rfl)]
        rw [lc_map (g := fun t => PyData.bool (isBetween t 0 4))]
        · simp_arith only [bools_map, List.all_map]
          rfl
        · exact fun t ht => ⟨_, _, _, _, rfl, rfl, by simp_arith only [g_MOST_BLOCK, e_is_between]; rfl, rfl, rfl⟩
  | _ => rfl
theorem e_are_plots {B : Nat} (n : Nat) (a : D) (hg : good B a = true) : (C (n + 4)).fn 11 [.d a] = some (.d (.bool (arePlots a)), [.d a]) := by
  rw [show ∀ m xs, (C (m + 1)).fn 11 xs = runF (C m) f11 xs from fun _ _ => rfl, run_f _ _ _ ⟨rfl, rfl⟩]
  simp_arith only [f11, i11_0, g_MOST_UNKNOWNS, g_MOST_PLOTS]
  cases a with
  | tuple rows =>
    cases rows with
    | nil => rfl
    | cons r0 rs =>
      have h1 : decide ((1 : Int) ≤ ((r0 :: rs).length : Int)) = true := by simp; omega
      simp_arith only [isA, tyOf, h1]
      simp_arith (decide := true) only [g_MOST_UNKNOWNS, g_MOST_PLOTS, h1, atI0]
      rcases Bool.eq_false_or_eq_true (decide (((r0 :: rs).length : Int) ≤ 10)) with h2 | h2
      rotate_left
      · simp_arith only [h2, arePlots, h1, Bool.false_and, Bool.and_false]
      · simp_arith only [h2, atI0]
        rcases Bool.eq_false_or_eq_true (isTup r0) with h3 | h3
        rotate_left
        · simp_arith only [isA_tup, h3]
          have e : arePlots (.tuple (r0 :: rs)) = false := by
            simp only [arePlots, h1, h2, Bool.true_and]
            cases r0 <;> first | rfl | cases h3
          rw [e]
        · obtain ⟨ys, rfl⟩ := of_isTup h3
          simp_arith only [isA_tup, h3, atI0]
          rcases Bool.eq_false_or_eq_true (decide ((1 : Int) ≤ (ys.length : Int))) with h4 | h4
          rotate_left
          · simp_arith only [h4, arePlots, h1, h2, Bool.true_and, Bool.false_and, Bool.and_false]
          · simp_arith only [h4, g_MOST_UNKNOWNS]
            rcases Bool.eq_false_or_eq_true (decide ((ys.length : Int) ≤ 5)) with h5 | h5
            rotate_left
            · simp_arith only [h5, arePlots, h1, h2, h4, Bool.true_and, Bool.false_and, Bool.and_false]
            · simp_arith only [h5, if_pos (good_short hg _ rfl)]
              rw [lc_map (g := fun t => PyData.bool (isRow t ys.length))]
              · simp_arith only [bools_map, List.all_map, arePlots, h1, h2, h4, h5, Bool.true_and]
                rfl
              · intro t ht
                have ht2 := (good_tup.mp hg).2 t ht
                exact ⟨_, _, _, _, rfl, rfl, by simp_arith only [atI0, e_is_row _ t _ (good_short ht2)]; rfl, rfl, rfl⟩
  | _ => rfl
theorem e_is_trial_by {B : Nat} (n : Nat) (a : D) (hg : good B a = true) : (C (n + 5)).fn 12 [.d a] = some (.d (.bool (isTrial a)), [.d a]) := by
  rw [show ∀ m xs, (C (m + 1)).fn 12 xs = runF (C m) f12 xs from fun _ _ => rfl, run_f _ _ _ ⟨rfl, rfl⟩]
  simp_arith only [f12, i12_0, e_is_tuple_of]
  rcases Bool.eq_false_or_eq_true (tupOf a 3) with h1 | h1
  rotate_left
  · simp_arith only [h1]
    have : isTrial a = false := by
      unfold isTrial
      split
      · simp [tupOf] at h1
      · rfl
    rw [this]
  · obtain ⟨p, s, b, rfl⟩ := tup3 h1
    have gp := (good_tup.mp hg).2 p (by simp)
    have gs := (good_tup.mp hg).2 s (by simp)
    have gb := (good_tup.mp hg).2 b (by simp)
    simp_arith only [h1, a30, e_are_plots _ p gp]
    rcases Bool.eq_false_or_eq_true (arePlots p) with h2 | h2
    rotate_left
    · simp_arith only [h2, isTrial, Bool.false_and]
    · obtain ⟨r0, rs, rfl, _⟩ := plots_tup h2
      simp_arith only [h2, a30, a31, e_is_row _ s _ (good_short gs)]
      rcases Bool.eq_false_or_eq_true (isRow s ((PyData.tuple r0 :: rs).length : Int)) with h3 | h3
      rotate_left
      · simp_arith only [h3, isTrial, h2, lenD, Bool.true_and, Bool.false_and]
      · obtain ⟨xs, rfl, hx, hr⟩ := row_tup h3
        simp_arith only [h3, a30, a31, a32, if_pos (good_short gs _ rfl)]
        rw [lc_map (g := fun t => PyData.bool (posR t))]
        · simp_arith only [bools_map, List.all_map, a30, a32, e_are_blocks _ b _ (good_short gb), isTrial, h2, lenD, h3, Bool.true_and, posAll]
          rcases Bool.eq_false_or_eq_true (xs.all (id ∘ posR)) with h4 | h4
          · have h5 : xs.all posR = true := h4
            simp_arith only [h4, h5, a32, a30, e_are_blocks _ b _ (good_short gb), Bool.true_and]
          · have h5 : xs.all posR = false := h4
            simp_arith only [h4, h5, Bool.false_and]
        · intro t ht
          obtain ⟨p, q, rfl, _⟩ := ratio_tup (hr t ht)
          exact ⟨_, _, _, _, rfl, rfl, by simp_arith only [at0]; rfl, rfl, rfl⟩
/-! ### a trial's parts -/
theorem e_many_unknowns (n : Nat) (a : D) (h : isTrial a = true) : (C (n + 1)).fn 13 [.d a] = some (.d (.int (manyD a)), [.d a]) := by
  obtain ⟨r0, rs, sp, bl, rfl, _⟩ := trial_parts h
  rw [show ∀ m xs, (C (m + 1)).fn 13 xs = runF (C m) f13 xs from fun _ _ => rfl, run_f _ _ _ ⟨rfl, rfl⟩]
  simp_arith only [f13, a30, atI0, manyD]
theorem e_many_levels (n : Nat) (a : D) (h : isTrial a = true) : (C (n + 1)).fn 15 [.d a] = some (.d (.int (levD a)), [.d a]) := by
  obtain ⟨r0, rs, sp, bl, rfl, _, _, _, _, _, hb⟩ := trial_parts h
  rw [show ∀ m xs, (C (m + 1)).fn 15 xs = runF (C m) f15 xs from fun _ _ => rfl, run_f _ _ _ ⟨rfl, rfl⟩]
  simp_arith only [f15, a32]
  simp_arith (decide := true) only [eqT0, a32]
  rcases hb with rfl | ⟨hl, hb⟩
  · rfl
  · obtain ⟨ns, h1, h2, h3⟩ := ints_of hb
    cases ns with
    | nil =>
      simp at h2
      subst h2
      rfl
    | cons i ns =>
      have he : bl.isEmpty = false := by rw [h2]; rfl
      simp_arith only [he, a32, maxQ, h1, addQ, levD]

end LaK03
set_option Elab.async false
set_option linter.all false
set_option maxRecDepth 100000
set_option maxHeartbeats 1000000
namespace LaK03
open PySem PySem.Spec Eng L2
theorem e_is_world_by {B : Nat} (n : Nat) (a v : D) (h : isTrial a = true) (hg : good B v = true) : (C (n + 4)).fn 16 [.d a, .d v] = some (.d (.bool (isWorld a v)), [.d a, .d v]) := by
  rw [show ∀ m xs, (C (m + 1)).fn 16 xs = runF (C m) f16 xs from fun _ _ => rfl, run_f _ _ _ ⟨rfl, rfl⟩]
  simp_arith only [f16, i16_0, e_is_tuple_of]
  rcases Bool.eq_false_or_eq_true (tupOf v 2) with h1 | h1
  rotate_left
  · simp_arith only [h1]
    have : isWorld a v = false := by
      unfold isWorld
      split
      · simp [tupOf] at h1
      · rfl
    rw [this]
  · obtain ⟨x, y, rfl⟩ := tup2 h1
    have gx := (good_tup.mp hg).2 x (by simp)
    have gy := (good_tup.mp hg).2 y (by simp)
    simp_arith only [h1, at0, at1, e_many_unknowns _ a h, e_many_levels _ a h, e_is_row _ x _ (good_short gx), isWorld]
    rcases Bool.eq_false_or_eq_true (isRow x (manyD a)) with h2 | h2
    rotate_left
    · simp_arith only [h2, Bool.false_and]
    · simp_arith only [h2, at1, e_many_levels _ a h, e_is_row _ y _ (good_short gy), Bool.true_and]
theorem e_is_question_by {B : Nat} (n : Nat) (a v : D) (h : isTrial a = true) (hg : good B v = true) : (C (n + 4)).fn 17 [.d a, .d v] = some (.d (.bool (isRow v (manyD a))), [.d a, .d v]) := by
  rw [show ∀ m xs, (C (m + 1)).fn 17 xs = runF (C m) f17 xs from fun _ _ => rfl, run_f _ _ _ ⟨rfl, rfl⟩]
  simp_arith only [f17, e_many_unknowns _ a h, e_is_row _ v _ (good_short hg)]
theorem e_check_trial {B : Nat} (n : Nat) (a : D) (h : isTrial a = true) (hg : good B a = true) : (C (n + 6)).fn 22 [.d a] = some (.d .none, [.d a]) := by
  rw [show ∀ m xs, (C (m + 1)).fn 22 xs = runF (C m) f22 xs from fun _ _ => rfl, run_f _ _ _ ⟨rfl, rfl⟩]
  simp_arith only [f22, i22_0, e_is_trial_by _ a hg, h]

end LaK03
set_option Elab.async false
set_option linter.all false
set_option maxRecDepth 100000
set_option maxHeartbeats 1000000
namespace LaK03
open PySem PySem.Spec Eng L2
theorem e_check_world {B : Nat} (n : Nat) (a v : D) (h : isTrial a = true) (hg : good B v = true) (hv : isWorld a v = true) : (C (n + 5)).fn 23 [.d a, .d v] = some (.d .none, [.d a, .d v]) := by
  rw [show ∀ m xs, (C (m + 1)).fn 23 xs = runF (C m) f23 xs from fun _ _ => rfl, run_f _ _ _ ⟨rfl, rfl⟩]
  simp_arith only [f23, i23_0, e_is_world_by n a v h hg, hv]
theorem e_check_question {B : Nat} (n : Nat) (a v : D) (h : isTrial a = true) (hg : good B v = true) (hv : isRow v (manyD a) = true) : (C (n + 5)).fn 24 [.d a, .d v] = some (.d .none, [.d a, .d v]) := by
  rw [show ∀ m xs, (C (m + 1)).fn 24 xs = runF (C m) f24 xs from fun _ _ => rfl, run_f _ _ _ ⟨rfl, rfl⟩]
  simp_arith only [f24, i24_0, e_is_question_by n a v h hg, hv]
theorem e_check_asked {B : Nat} (n : Nat) (a v : D) (h : isTrial a = true) (ha : good B a = true) (hg : good B v = true) (hv : isRow v (manyD a) = true) : (C (n + 7)).fn 25 [.d a, .d v] = some (.d .none, [.d a, .d v]) := by
  rw [show ∀ m xs, (C (m + 1)).fn 25 xs = runF (C m) f25 xs from fun _ _ => rfl, run_f _ _ _ ⟨rfl, rfl⟩]
  simp_arith only [f25, e_check_trial n a h ha, e_check_question (n + 1) a v h hg hv]

end LaK03
set_option Elab.async false
set_option linter.all false
set_option maxRecDepth 100000
set_option maxHeartbeats 1000000
namespace LaK03
open PySem PySem.Spec Eng L2
theorem e_ratio (n : Nat) (p q : Int) (hq : q ≠ 0) (bp : p.natAbs < 2 ^ 8000) (bq : q.natAbs < 2 ^ 8000) : (C (n + 1)).fn 4 [.d (.int p), .d (.int q)] =
    some (.d (rD (Rat.divInt p q)), [.d (.int p), .d (.int q)]) := by
  have hg : 0 < Int.gcd p q := Nat.pos_of_ne_zero fun e => by
    have := Int.gcd_eq_zero_iff.mp e
    omega
  have h2 : ∀ g : Int, g.natAbs = Int.gcd p q → divOk g = true := fun g e => by
    unfold divOk
    refine decide_eq_true ⟨by omega, ?_⟩
    have h3 : Int.gcd p q ≤ q.natAbs := Int.gcd_le_natAbs_right p (by omega)
    have h4 : Int.gcd p q < 2 ^ 8000 := Nat.lt_of_le_of_lt h3 bq
    rw [e]
    exact Nat.lt_of_lt_of_le ((Nat.log2_lt (by omega)).mpr h4) (by decide)
  rw [show ∀ m xs, (C (m + 1)).fn 4 xs = runF (C m) f4 xs from fun _ _ => rfl, run_f _ _ _ ⟨rfl, rfl⟩]
  by_cases h : 0 < q
  · have h1 : decide ((0 : Int) < q) = true := decide_eq_true h
    simp_arith (decide := true) only [f4, h1, h2 (Int.gcd p q : Nat) (by omega), lean_rD h]
  · have h1 : decide ((0 : Int) < q) = false := decide_eq_false h
    simp_arith (decide := true) only [f4, h1, h2 (-(Int.gcd p q : Nat)) (by omega), lean_rDn (show q < 0 by omega)]

end LaK03
set_option Elab.async false
set_option linter.all false
set_option maxRecDepth 100000
set_option maxHeartbeats 1000000
namespace LaK03
open PySem PySem.Spec Eng L2
theorem e_plus (n : Nat) (x y : Rat) (hx : Sm 3900 x) (hy : Sm 3900 y) : (C (n + 2)).fn 5 [.d (rD x), .d (rD y)] = some (.d (rD (x + y)), [.d (rD x), .d (rD y)]) := by
  have hp : (x.num * (y.den : Int) + y.num * (x.den : Int)).natAbs < 2 ^ 8000 := sm_up (sm_add (sm_mul hx.num hy.den) (sm_mul hy.num hx.den)) (by decide)
  have hq : ((x.den : Int) * (y.den : Int)).natAbs < 2 ^ 8000 := sm_up (sm_mul hx.den hy.den) (by decide)
  have h0 : (x.den : Int) * (y.den : Int) ≠ 0 := Int.mul_ne_zero (by have := x.den_pos; omega) (by have := y.den_pos; omega)
  have h := e_ratio n _ _ h0 hp hq
  rw [← add_divInt] at h
  rw [show ∀ m xs, (C (m + 1)).fn 5 xs = runF (C m) f5 xs from fun _ _ => rfl, run_f _ _ _ ⟨rfl, rfl⟩]
  simp_arith only [f5, rD, at0, at1, sm_ok (show 3900 ≤ 10000 by decide) hx.num hy.den, sm_ok (show 3900 ≤ 10000 by decide) hy.num hx.den, sm_ok (show 3900 ≤ 10000 by decide) hx.den hy.den, h]

end LaK03
set_option Elab.async false
set_option linter.all false
set_option maxRecDepth 100000
set_option maxHeartbeats 1000000
namespace LaK03
open PySem PySem.Spec Eng L2
theorem e_times (n : Nat) (x y : Rat) (hx : Sm 3900 x) (hy : Sm 3900 y) : (C (n + 2)).fn 6 [.d (rD x), .d (rD y)] = some (.d (rD (x * y)), [.d (rD x), .d (rD y)]) := by
  have hp : (x.num * y.num).natAbs < 2 ^ 8000 := sm_up (sm_mul hx.num hy.num) (by decide)
  have hq : ((x.den : Int) * (y.den : Int)).natAbs < 2 ^ 8000 := sm_up (sm_mul hx.den hy.den) (by decide)
  have h0 : (x.den : Int) * (y.den : Int) ≠ 0 := Int.mul_ne_zero (by have := x.den_pos; omega) (by have := y.den_pos; omega)
  have h := e_ratio n _ _ h0 hp hq
  rw [← mul_divInt] at h
  rw [show ∀ m xs, (C (m + 1)).fn 6 xs = runF (C m) f6 xs from fun _ _ => rfl, run_f _ _ _ ⟨rfl, rfl⟩]
  simp_arith only [f6, rD, at0, at1, sm_ok (show 3900 ≤ 10000 by decide) hx.num hy.num, sm_ok (show 3900 ≤ 10000 by decide) hx.den hy.den, h]

end LaK03
set_option Elab.async false
set_option linter.all false
set_option maxRecDepth 100000
set_option maxHeartbeats 1000000
namespace LaK03
open PySem PySem.Spec Eng L2
theorem l_total_0 (n L M : Nat) (l0 : 0 < L) (l1 : L < 2 ^ 3000) (m1 : M < 2 ^ 3000) (F : D) (S : Rat) (us : List D) (ρ : Eng.Env) (h : ∃ (s : Rat) (ps : List Rat) (k : Nat) (z : Option Val), us = ps.map rD ∧ ρ = [some (.d F), some (.d (rD s)), z] ∧ RK L (M * k) s ∧ k + ps.length ≤ 100 ∧ (∀ x ∈ ps, RK L M x) ∧ sumR s ps = S) :
    ∃ o, forLoop (bindT (.nm 2)) (Eng.execs (C (n + 2)) b7_0) us ρ = some o ∧ ∃ z : Option Val, o = .nx [some (.d F), some (.d (rD S)), z] := by
  refine for_inv (fun us ρ => ∃ (s : Rat) (ps : List Rat) (k : Nat) (z : Option Val), us = ps.map rD ∧ ρ = [some (.d F), some (.d (rD s)), z] ∧ RK L (M * k) s ∧ k + ps.length ≤ 100 ∧ (∀ x ∈ ps, RK L M x) ∧ sumR s ps = S) ?_ ?_ us ρ h
  · rintro u us ρ ⟨s, ps, k, z, hu, rfl, hs, hk, hp, hS⟩
    cases ps with
    | nil => simp at hu
    | cons x ps =>
      simp only [List.map_cons, List.cons.injEq] at hu
      obtain ⟨rfl, rfl⟩ := hu
      rw [List.length_cons] at hk
      have hx := hp x List.mem_cons_self
      have h1 := e_plus n s x (sm_of_rk hs l0 l1 m1 (by omega)) (sm_of_rk (k := 1) (by rw [Nat.mul_one]; exact hx) l0 l1 m1 (by decide))
      refine ⟨_, .nx [some (.d F), some (.d (rD (s + x))), some (.d (rD x))], rfl, by simp_arith only [b7_0, h1], s + x, ps, k + 1, _, rfl, rfl, ?_, by omega, fun y hy => hp y (List.mem_cons_of_mem _ hy), hS⟩
      rw [Nat.mul_succ]
      exact hs.add l0 hx
  · rintro ρ ⟨s, ps, k, z, hu, rfl, hs, hk, hp, hS⟩
    cases ps with
    | cons _ _ => simp at hu
    | nil => exact ⟨z, by rw [← hS]; rfl⟩
theorem g_ZERO : glOf gv 1 = some (rD 0) := rfl
theorem e_total (n L M : Nat) (ps : List Rat) (h : SOK L M ps) : (C (n + 3)).fn 7 [.own (ps.map rD)] = some (.d (rD (sumR 0 ps)), [.d (.list (ps.map rD))]) := by
  obtain ⟨o, h1, z, rfl⟩ := l_total_0 n L M h.l0 h.l1 h.m1 (.list (ps.map rD)) (sumR 0 ps) (ps.map rD) [some (.d (.list (ps.map rD))), some (.d (rD 0)), none] ⟨0, ps, 0, none, rfl, rfl, RK.zero, by have := h.len; omega, h.rk, rfl⟩
  rw [show ∀ m xs, (C (m + 1)).fn 7 xs = runF (C m) f7 xs from fun _ _ => rfl, run_f _ _ _ ⟨rfl, rfl⟩]
  simp_arith only [f7, g_ZERO, h1]
theorem e_dot (n L M : Nat) (a b : List Rat) (h : DOK L M a b) : (C (n + 4)).fn 8 [.d (rowD a), .d (rowD b)] = some (.d (rD (dotR a b)), [.d (rowD a), .d (rowD b)]) := by
  have h1 := e_total n L M (prodR a b) h.sok
  have hl : (pairUp (a.map rD) (b.map rD)).length ≤ szL := by
    have := h.len
    rw [pairUp_len, List.length_map, List.length_map]
    exact sz1000 (by omega)
  rw [show ∀ m xs, (C (m + 1)).fn 8 xs = runF (C m) f8 xs from fun _ _ => rfl, run_f _ _ _ ⟨rfl, rfl⟩]
  simp_arith only [f8, rowD, if_pos hl]
  rw [lc_zip (g := fun x y => rD (x * y))]
  · have e : List.zipWith (fun x y => rD (x * y)) a b = (prodR a b).map rD := by rw [prodR, List.map_zipWith]
    simp_arith only [e, h1]
    rfl
  · intro x hx y hy
    exact ⟨_, _, _, _, rfl, rfl, by simp_arith only [e_times (n + 1) x y (h.sa x hx) (h.sb y hy)]; rfl, rfl, rfl⟩

end LaK03
set_option Elab.async false
set_option linter.all false
set_option maxRecDepth 100000
set_option maxHeartbeats 1000000
namespace LaK03
open PySem PySem.Spec Eng L2
theorem e_many_plots (n : Nat) (rows : List (List Rat)) (sps : List Rat) (bls : List Int) : (C (n + 1)).fn 14 [.d (trialD rows sps bls)] = some (.d (.int rows.length), [.d (trialD rows sps bls)]) := by
  rw [show ∀ m xs, (C (m + 1)).fn 14 xs = runF (C m) f14 xs from fun _ _ => rfl, run_f _ _ _ ⟨rfl, rfl⟩]
  simp_arith only [f14, trialD, a30, List.length_map]
theorem e_yield_by (n few most i : Nat) (rows : List (List Rat)) (sps : List Rat) (bls : List Int) (w0 w1 : List Rat) (h : DT few most rows sps bls) (hw : WK few bls w0 w1) (hi : i < rows.length) :
    (C (n + 5)).fn 19 [.d (trialD rows sps bls), .d (.int i), .d (.tuple [rowD w0, rowD w1])] = some (.d (rD (yR rows bls w0 w1 i)), [.d (trialD rows sps bls), .d (.int i), .d (.tuple [rowD w0, rowD w1])]) := by
  have hr : rows[i] ∈ rows := List.getElem_mem hi
  have dk := row_dok h hw.r0 hr
  have h1 := e_dot n _ _ _ _ dk
  have e1 : atI (rows.map rowD) (i : Int) = some (rowD rows[i]) := by rw [atI_nat (by rw [List.length_map]; exact hi), List.getElem_map]
  have e2 : rows.getD i [] = rows[i] := by rw [List.getD_eq_getElem?_getD, List.getElem?_eq_getElem hi]; rfl
  rcases h.bl with rfl | ⟨hb, hbb⟩
  · have e3 : yR rows [] w0 w1 i = dotR rows[i] w0 := by
      unfold yR lvR
      rw [e2]
      simp only [List.getElem?_nil]
      exact Rat.add_zero _
    rw [show ∀ m xs, (C (m + 1)).fn 19 xs = runF (C m) f19 xs from fun _ _ => rfl, run_f _ _ _ ⟨rfl, rfl⟩]
    simp_arith (decide := true) only [f19, trialD, a30, e1, at0, h1, a32, blD, List.map_nil, eqT0, List.isEmpty, e3]
  · have hib : i < bls.length := by omega
    have b1 := hbb bls[i] (List.getElem_mem hib)
    have b2 := levN_lt bls[i] (List.getElem_mem hib)
    obtain ⟨k, hk⟩ : ∃ k : Nat, bls[i] = (k : Int) := ⟨bls[i].toNat, by omega⟩
    have hkw : k < w1.length := by have := hw.l1; omega
    have e3 : yR rows bls w0 w1 i = dotR rows[i] w0 + w1[k] := by
      unfold yR lvR
      rw [e2, List.getElem?_eq_getElem hib]
      simp only [hk, Int.toNat_natCast]
      rw [List.getD_eq_getElem?_getD, List.getElem?_eq_getElem hkw]
      rfl
    have e4 : atI (bls.map PyData.int) (i : Int) = some (.int k) := by rw [atI_nat (by rw [List.length_map]; exact hib), List.getElem_map, hk]
    have e5 : atI (w1.map rD) (k : Int) = some (rD w1[k]) := by rw [atI_nat (by rw [List.length_map]; exact hkw), List.getElem_map]
    have e6 : (bls.map PyData.int).isEmpty = false := by
      cases bls with
      | nil => simp at hib
      | cons _ _ => rfl
    have s1 : Sm 3900 w1[k] := (hw.r1 _ (List.getElem_mem hkw)).sm LB_pos (Nat.lt_of_lt_of_le lb1500 (sm_pow (by decide))) (Nat.lt_of_lt_of_le m01500 (sm_pow (by decide)))
    have h2 := e_plus (n + 2) _ _ dk.dotSm s1
    rw [← e3] at h2
    have ew : rowD w1 = .tuple (w1.map rD) := rfl
    rw [show ∀ m xs, (C (m + 1)).fn 19 xs = runF (C m) f19 xs from fun _ _ => rfl, run_f _ _ _ ⟨rfl, rfl⟩]
    simp_arith (decide := true) only [f19, trialD, ew, a30, e1, at0, at1, h1, a32, blD, eqT0, e6, e4, e5, h2]
theorem e_yields_by (n few most : Nat) (rows : List (List Rat)) (sps : List Rat) (bls : List Int) (w0 w1 : List Rat) (h : DT few most rows sps bls) (hm : most ≤ 10) (hw : WK few bls w0 w1) :
    (C (n + 6)).fn 20 [.d (trialD rows sps bls), .d (.tuple [rowD w0, rowD w1])] = some (.d (rowD (yieldsR rows bls w0 w1)), [.d (trialD rows sps bls), .d (.tuple [rowD w0, rowD w1])]) := by
  have h1 := e_many_plots (n + 4) rows sps bls
  have m1 := h.many1
  have hl : (Eng.upTo 0 rows.length).length ≤ szL := by rw [upTo_len]; exact sz1000 (by omega)
  rw [show ∀ m xs, (C (m + 1)).fn 20 xs = runF (C m) f20 xs from fun _ _ => rfl, run_f _ _ _ ⟨rfl, rfl⟩]
  simp_arith only [f20, h1, x_rngN rows.length _ (show rows.length ≤ 1000 by omega), if_pos hl]
  have eu : Eng.upTo 0 rows.length = (List.range rows.length).map fun k : Nat => PyData.int (k : Int) := by
    unfold Eng.upTo
    congr 1
    funext k
    rw [Int.zero_add]
  rw [eu, lc_on (g := fun k => rD (yR rows bls w0 w1 k))]
  · simp_arith only [yieldsR, rowD, List.map_map]
    rfl
  · intro k hk
    rw [List.mem_range] at hk
    exact ⟨_, _, _, _, rfl, rfl, by simp_arith only [e_yield_by n few most k rows sps bls w0 w1 h hw hk]; rfl, rfl, rfl⟩

end LaK03
set_option Elab.async false
set_option linter.all false
set_option maxRecDepth 100000
set_option maxHeartbeats 1000000
namespace LaK03
open PySem PySem.Spec Eng L2
theorem l_wrong_in_lot_0 (n many : Nat) (l : List Nat) (hl : LK many l) (us : List D) (ρ : Eng.Env) (h : ∃ (j : Nat) (z2 z3 : Option Val), us = numbered j ((l.drop j).map fun k : Nat => PyData.int (k : Int)) ∧ ρ = [some (.d (.int many)), some (.d (lotD l)), z2, z3]) :
    ∃ o, forLoop (bindT (.tp [(.nm 2), (.nm 3)])) (Eng.execs (C (n + 2)) b18_0) us ρ = some o ∧ ∃ z2 z3 : Option Val, o = .nx [some (.d (.int many)), some (.d (lotD l)), z2, z3] := by
  refine for_inv (fun us ρ => ∃ (j : Nat) (z2 z3 : Option Val), us = numbered j ((l.drop j).map fun k : Nat => PyData.int (k : Int)) ∧ ρ = [some (.d (.int many)), some (.d (lotD l)), z2, z3]) ?_ ?_ us ρ h
  · rintro u us ρ ⟨j, z2, z3, hu, rfl⟩
    by_cases hj : j < l.length
    · rw [numbered_drop l j hj] at hu
      injection hu with h1 h2
      subst h1
      subst h2
      have lt := hl.lt _ (List.getElem_mem hj)
      have hb := e_is_between n (.int (l[j] : Int)) 0 ((many : Int) - 1)
      have hb2 : isBetween (.int (l[j] : Int)) 0 ((many : Int) - 1) = true := by
        simp only [isBetween, Bool.and_eq_true, decide_eq_true_eq]
        omega
      rw [hb2] at hb
      refine ⟨[some (.d (.int many)), some (.d (lotD l)), some (.d (.int j)), some (.d (.int (l[j] : Int)))], .nx [some (.d (.int many)), some (.d (lotD l)), some (.d (.int j)), some (.d (.int (l[j] : Int)))], rfl, ?_, j + 1, _, _, rfl, rfl⟩
      by_cases j0 : (0 : Int) < j
      · have jm : (j : Int) - 1 = ((j - 1 : Nat) : Int) := by omega
        have e1 : atI (l.map fun k : Nat => PyData.int (k : Int)) ((j : Int) - 1) = some (.int (l[j - 1] : Int)) := by
          rw [jm, atI_nat (by rw [List.length_map]; omega), List.getElem_map]
        have h2 := (List.pairwise_iff_getElem.mp hl.asc) (j - 1) j (by omega) hj (by omega)
        have e2 : decide ((l[j] : Int) ≤ (l[j - 1] : Int)) = false := decide_eq_false (by omega)
        simp_arith only [b18_0, i18_1, hb, decide_eq_true j0, lotD, e1, e2]
      · simp_arith only [b18_0, i18_1, hb, decide_eq_false j0]
    · rw [List.drop_eq_nil_of_le (by omega)] at hu
      simp [Eng.numbered] at hu
  · rintro ρ ⟨j, z2, z3, _, rfl⟩
    exact ⟨z2, z3, rfl⟩
theorem e_wrong_in_lot (n many : Nat) (l : List Nat) (hl : LK many l) : (C (n + 3)).fn 18 [.d (.int many), .d (lotD l)] = some (.own [], [.d (.int many), .d (lotD l)]) := by
  obtain ⟨o, h1, z2, z3, rfl⟩ := l_wrong_in_lot_0 n many l hl (numbered 0 (l.map fun k : Nat => PyData.int (k : Int))) [some (.d (.int many)), some (.d (lotD l)), none, none] ⟨0, none, none, rfl, rfl⟩
  have e0 : (l.map fun k : Nat => PyData.int (k : Int)).isEmpty = false := by
    have := hl.ne
    cases l with
    | nil => exact absurd rfl this
    | cons _ _ => rfl
  rw [show ∀ m xs, (C (m + 1)).fn 18 xs = runF (C m) f18 xs from fun _ _ => rfl, run_f _ _ _ ⟨rfl, rfl⟩]
  unfold lotD at h1 ⊢
  simp_arith (decide := true) only [f18, i18_0, isA, tyOf, eqT0, e0, h1]
theorem e_check_lot (n : Nat) (rows : List (List Rat)) (sps : List Rat) (bls : List Int) (l : List Nat) (hl : LK rows.length l) : (C (n + 4)).fn 26 [.d (trialD rows sps bls), .d (lotD l)] = some (.d .none, [.d (trialD rows sps bls), .d (lotD l)]) := by
  have h1 := e_many_plots (n + 2) rows sps bls
  have h2 := e_wrong_in_lot n rows.length l hl
  rw [show ∀ m xs, (C (m + 1)).fn 26 xs = runF (C m) f26 xs from fun _ _ => rfl, run_f _ _ _ ⟨rfl, rfl⟩]
  simp_arith only [f26, h1, h2, forLoop]
theorem e_plots_by (n few most : Nat) (rows : List (List Rat)) (sps : List Rat) (bls : List Int) (l : List Nat) (h : DT few most rows sps bls) (hm : most ≤ 10) (hl : LK rows.length l) :
    (C (n + 1)).fn 21 [.d (trialD rows sps bls), .d (lotD l)] = some (.d (trialD (pickL l rows []) (pickL l sps 0) (pickB l bls)), [.d (trialD rows sps bls), .d (lotD l)]) := by
  have ll := hl.len
  have m1 := h.many1
  have hz : (l.map fun k : Nat => PyData.int (k : Int)).length ≤ szL := by rw [List.length_map]; exact sz1000 (by omega)
  have c1 : ∀ ρ : Eng.Env, ρ = [some (.d (trialD rows sps bls)), some (.d (lotD l)), some (.d (.tuple (rows.map rowD))), some (.d (.tuple (sps.map rD))), some (.d (blD bls)), some (.d (blD (pickB l bls))), none] →
      compLoop (bindT (.nm 6)) (denC (C n) .nil) (den (C n) (.prim .idx (.cons (.var 2) (.cons (.var 6) .nil)))) [6] (l.map fun k : Nat => PyData.int (k : Int)) ρ = some ((pickL l rows []).map rowD, ρ) := fun ρ hρ => by
    rw [lc_on (g := fun k => rowD (rows.getD k []))]
    · rw [pickL, List.map_map]; rfl
    · intro k hk
      subst hρ
      exact ⟨_, _, _, _, rfl, rfl, by simp_arith only [atI_map [] (hl.lt k hk)]; rfl, rfl, rfl⟩
  have c2 : ∀ ρ : Eng.Env, ρ = [some (.d (trialD rows sps bls)), some (.d (lotD l)), some (.d (.tuple (rows.map rowD))), some (.d (.tuple (sps.map rD))), some (.d (blD bls)), some (.d (blD (pickB l bls))), none] →
      compLoop (bindT (.nm 6)) (denC (C n) .nil) (den (C n) (.prim .idx (.cons (.var 3) (.cons (.var 6) .nil)))) [6] (l.map fun k : Nat => PyData.int (k : Int)) ρ = some ((pickL l sps 0).map rD, ρ) := fun ρ hρ => by
    rw [lc_on (g := fun k => rD (sps.getD k 0))]
    · rw [pickL, List.map_map]; rfl
    · intro k hk
      subst hρ
      exact ⟨_, _, _, _, rfl, rfl, by simp_arith only [atI_map (0 : Rat) (show k < sps.length by rw [h.spl]; exact hl.lt k hk)]; rfl, rfl, rfl⟩
  by_cases hb : bls = []
  · subst hb
    have c1 := c1 _ rfl
    have c2 := c2 _ rfl
    rw [show ∀ m xs, (C (m + 1)).fn 21 xs = runF (C m) f21 xs from fun _ _ => rfl, run_f _ _ _ ⟨rfl, rfl⟩]
    unfold trialD lotD blD pickB at c1 c2 ⊢
    simp only [List.map_nil, if_true] at c1 c2 ⊢
    simp_arith (decide := true) only [f21, eqT0, List.isEmpty, if_pos hz, c1, c2]
  · have hbl : bls.length = rows.length := by
      rcases h.bl with e | e
      · exact absurd e hb
      · exact e.1
    have e0 : (bls.map PyData.int).isEmpty = false := by
      cases bls with
      | nil => exact absurd rfl hb
      | cons _ _ => rfl
    have c3 : ∀ ρ : Eng.Env, ρ = [some (.d (trialD rows sps bls)), some (.d (lotD l)), some (.d (.tuple (rows.map rowD))), some (.d (.tuple (sps.map rD))), some (.d (blD bls)), none, none] →
      compLoop (bindT (.nm 6)) (denC (C n) .nil) (den (C n) (.prim .idx (.cons (.var 4) (.cons (.var 6) .nil)))) [6] (l.map fun k : Nat => PyData.int (k : Int)) ρ = some ((pickL l bls 0).map PyData.int, ρ) := fun ρ hρ => by
      rw [lc_on (g := fun k => PyData.int (bls.getD k 0))]
      · rw [pickL, List.map_map]; rfl
      · intro k hk
        subst hρ
        exact ⟨_, _, _, _, rfl, rfl, by simp_arith only [blD, atI_map (0 : Int) (show k < bls.length by rw [hbl]; exact hl.lt k hk)]; rfl, rfl, rfl⟩
    have c1 := c1 _ rfl
    have c2 := c2 _ rfl
    have c3 := c3 _ rfl
    have ep : pickB l bls = pickL l bls 0 := if_neg hb
    rw [ep] at c1 c2 ⊢
    rw [show ∀ m xs, (C (m + 1)).fn 21 xs = runF (C m) f21 xs from fun _ _ => rfl, run_f _ _ _ ⟨rfl, rfl⟩]
    unfold trialD lotD blD at c1 c2 c3 ⊢
    simp_arith (decide := true) only [f21, eqT0, e0, if_pos hz, c3, c1, c2]
theorem good_of_trial {few most : Nat} {rows : List (List Rat)} {sps : List Rat} {bls : List Int} (h : DT few most rows sps bls) (hm : most ≤ 10) : good (2 ^ 200) (trialD rows sps bls) = true := gd_mono (by decide) (Nat.le_refl _) (gd_trial h hm)
theorem good_row {r : List Rat} (hl : r.length ≤ 10) (h : ∀ x ∈ r, x.num.natAbs < 2 ^ 1000 ∧ x.den < 2 ^ 1000) : good (2 ^ 1000) (rowD r) = true := gd_row (by decide) (by omega) h
theorem wk_world {few most : Nat} {rows : List (List Rat)} {sps : List Rat} {bls : List Int} {w0 w1 : List Rat} (h : DT few most rows sps bls) (hw : WK few bls w0 w1) : isWorld (trialD rows sps bls) (.tuple [rowD w0, rowD w1]) = true ∧ good (2 ^ 200) (.tuple [rowD w0, rowD w1]) = true := by
  have gm : ∀ {x : Rat}, RK LB M0 x → x.num.natAbs < 2 ^ 200 ∧ x.den < 2 ^ 200 := fun h => h.sm (k := 200) LB_pos (by decide +kernel) (by decide +kernel)
  have lb := levN_bound h
  have f5 := h.few5
  have l0 := hw.l0
  have l1 := hw.l1
  constructor
  · simp only [isWorld, manyD_trialD h, levD_trialD, Bool.and_eq_true]
    rw [← hw.l0, ← hw.l1]
    exact ⟨isRow_rowD _, isRow_rowD _⟩
  · exact gd_2 (by decide) (gd_row (by decide) (by omega) fun x hx => gm (hw.r0 x hx)) (gd_row (by decide) (by omega) fun x hx => gm (hw.r1 x hx))
theorem e_yields (n few most : Nat) (rows : List (List Rat)) (sps : List Rat) (bls : List Int) (w0 w1 : List Rat) (h : DT few most rows sps bls) (hm : most ≤ 10) (hw : WK few bls w0 w1) :
    (C (n + 7)).fn 27 [.d (trialD rows sps bls), .d (.tuple [rowD w0, rowD w1])] = some (.d (rowD (yieldsR rows bls w0 w1)), [.d (trialD rows sps bls), .d (.tuple [rowD w0, rowD w1])]) := by
  have h0 := isTrial_trialD h hm
  obtain ⟨k1, k2⟩ := wk_world h hw
  have h1 := e_check_trial n _ h0 (good_of_trial h hm)
  have h2 := e_check_world (n + 1) _ _ h0 k2 k1
  have h3 := e_yields_by n few most rows sps bls w0 w1 h hm hw
  rw [show ∀ m xs, (C (m + 1)).fn 27 xs = runF (C m) f27 xs from fun _ _ => rfl, run_f _ _ _ ⟨rfl, rfl⟩]
  simp_arith only [f27, h1, h2, h3]
theorem e_answer (n few most : Nat) (rows : List (List Rat)) (sps : List Rat) (bls : List Int) (w0 w1 q : List Rat) (L M : Nat) (h : DT few most rows sps bls) (hm : most ≤ 10) (hw : WK few bls w0 w1) (hq : q.length = few) (gq : ∀ x ∈ q, Sm 1000 x) (dk : DOK L M q w0) :
    (C (n + 8)).fn 28 [.d (trialD rows sps bls), .d (rowD q), .d (.tuple [rowD w0, rowD w1])] = some (.d (rD (dotR q w0)), [.d (trialD rows sps bls), .d (rowD q), .d (.tuple [rowD w0, rowD w1])]) := by
  have h0 := isTrial_trialD h hm
  obtain ⟨k1, k2⟩ := wk_world h hw
  have f5 := h.few5
  have up : good (2 ^ 1000) (trialD rows sps bls) = true := gd_mono (Nat.le_refl _) (sm_pow (by decide)) (good_of_trial h hm)
  have hr : isRow (rowD q) (manyD (trialD rows sps bls)) = true := by
    rw [manyD_trialD h, ← hq]
    exact isRow_rowD q
  have h1 := e_check_asked n _ _ h0 up (good_row (by omega) gq) hr
  have h2 := e_check_world (n + 2) _ _ h0 k2 k1
  have h3 := e_dot (n + 3) L M q w0 dk
  rw [show ∀ m xs, (C (m + 1)).fn 28 xs = runF (C m) f28 xs from fun _ _ => rfl, run_f _ _ _ ⟨rfl, rfl⟩]
  simp_arith only [f28, h1, h2, at0, h3]
theorem e_plots_of (n few most : Nat) (rows : List (List Rat)) (sps : List Rat) (bls : List Int) (l : List Nat) (h : DT few most rows sps bls) (hm : most ≤ 10) (hl : LK rows.length l) :
    (C (n + 7)).fn 29 [.d (trialD rows sps bls), .d (lotD l)] = some (.d (trialD (pickL l rows []) (pickL l sps 0) (pickB l bls)), [.d (trialD rows sps bls), .d (lotD l)]) := by
  have h0 := isTrial_trialD h hm
  have h1 := e_check_trial n _ h0 (good_of_trial h hm)
  have h2 := e_check_lot (n + 2) rows sps bls l hl
  have h3 := e_plots_by (n + 5) few most rows sps bls l h hm hl
  rw [show ∀ m xs, (C (m + 1)).fn 29 xs = runF (C m) f29 xs from fun _ _ => rfl, run_f _ _ _ ⟨rfl, rfl⟩]
  simp_arith only [f29, h1, h2, h3]

end LaK03
set_option Elab.async false
set_option linter.all false
set_option maxRecDepth 100000
set_option maxHeartbeats 1000000
namespace LaK03
open PySem PySem.Spec Eng L2
theorem e__law_draw (n N : Nat) (xs : List D) (few : Int) (w : W N xs) (hN : N < 1000000000) (h0 : 0 < few) (h1 : few < 1073741824) :
    ∃ d xs', (C (n + 1)).fn 31 [.own xs, .d (.int few)] = some (.d (.int d), [.own xs', .d (.int few)]) ∧ 0 ≤ d ∧ d < few ∧ W (N + 1) xs' := by
  obtain ⟨b, m, c, rfl, hb, hm, hm2, hc, hc2⟩ := w
  rw [show ∀ m xs, (C (m + 1)).fn 31 xs = runF (C m) f31 xs from fun _ _ => rfl, run_f _ _ _ ⟨rfl, rfl⟩]
  simp_arith only [f31, i31_0, a30, a31, a32]
  by_cases h : 0 < b
  · have hd : decide (0 < b) = true := decide_eq_true h
    simp_arith only [hd, a30, if_pos (And.intro h0 h1), (l3 _ _ _).1]
    refine ⟨b % few, _, rfl, Int.emod_nonneg _ (by omega), Int.emod_lt_of_pos _ h0, b / few, m, c, rfl, Int.ediv_nonneg hb (by omega), hm, hm2, hc, by omega⟩
  · have hd : decide (0 < b) = false := decide_eq_false h
    have hc1 : c + 1 ≤ 1000000000 := by omega
    have k1 : mulOk m 48271 = true := mulOk_nat hm (by omega) (by omega) (by omega)
    have k2 : mulOk 15017 (c + 1) = true := mulOk_nat (by omega) (by omega) (by omega) (by omega)
    have p1 : (0 : Int) < 2147483489 := by decide
    have p2 : (0 : Int) < 5003 := by decide
    have p3 : (2147483489 : Int) ≠ 0 := by decide
    have p4 : (5003 : Int) ≠ 0 := by decide
    have p5 : few ≠ 0 := by omega
    have k4 : divOk 1009 = true := by decide
    simp_arith only [hd, a30, a31, a32, (l3 _ _ _).1, (l3 _ _ _).2.1, (l3 _ _ _).2.2, k1, k2, if_pos p3]
    generalize hz : Int.fmod (m * 48271 + 15017 * (c + 1)) 2147483489 = z
    have z1 : 0 ≤ z ∧ z < 2147483489 := by
      rw [← hz, fmod_pos _ p1]
      exact ⟨Int.emod_nonneg _ (by omega), Int.emod_lt_of_pos _ p1⟩
    simp_arith only [if_pos p4, fmod_pos _ p2]
    have y1 := Int.emod_nonneg z (b := 5003) (by decide)
    have y2 := Int.emod_lt_of_pos z p2
    have k3 : mulOk z (z % 5003 + 20021) = true := mulOk_nat z1.1 (by omega) (by omega) (by omega)
    simp_arith only [k3, if_pos p3, a30, a31, a32, (l3 _ _ _).1, (l3 _ _ _).2.1, (l3 _ _ _).2.2, k4, if_pos p5]
    generalize hy : Int.fmod (z * (z % 5003 + 20021) + (c + 1)) 2147483489 = y
    have v1 : 0 ≤ y ∧ y < 2147483489 := by
      rw [← hy, fmod_pos _ p1]
      exact ⟨Int.emod_nonneg _ (by omega), Int.emod_lt_of_pos _ p1⟩
    refine ⟨_, _, rfl, ?_, ?_, b, y, c + 1, rfl, hb, v1.1, v1.2, by omega, by omega⟩
    · rw [fmod_pos _ h0]
      exact Int.emod_nonneg _ (by omega)
    · rw [fmod_pos _ h0]
      exact Int.emod_lt_of_pos _ h0
theorem e__law_one (n N : Nat) (xs : List D) (v : Val) (ts : List D) (w : W N xs) (hN : N < 1000000000) (hv : v = .d (.tuple ts) ∨ v = .own ts) (h0 : ts ≠ []) (h1 : ts.length ≤ 1000) :
    ∃ t xs', (C (n + 2)).fn 32 [.own xs, v] = some (.d t, [.own xs', v]) ∧ t ∈ ts ∧ W (N + 1) xs' := by
  have hp : 0 < ts.length := List.length_pos_iff.mpr h0
  obtain ⟨d, xs', h, d0, d1, w'⟩ := e__law_draw n N xs ts.length w hN (by omega) (by omega)
  obtain ⟨t, ht, hm⟩ := atI_some d0 d1
  refine ⟨t, xs', ?_, hm, w'⟩
  rcases hv with rfl | rfl
  · rw [show ∀ m xs, (C (m + 1)).fn 32 xs = runF (C m) f32 xs from fun _ _ => rfl, run_f _ _ _ ⟨rfl, rfl⟩]
    simp_arith only [f32, h, ht]
  · rw [show ∀ m xs, (C (m + 1)).fn 32 xs = runF (C m) f32 xs from fun _ _ => rfl, run_f _ _ _ ⟨rfl, rfl⟩]
    simp_arith only [f32, h, ht]

end LaK03
set_option Elab.async false
set_option linter.all false
set_option maxRecDepth 100000
set_option maxHeartbeats 1000000
namespace LaK03
open PySem PySem.Spec Eng L2
theorem e__law_lean (n : Nat) (p q : Int) (hq : q ≠ 0) (bp : p.natAbs < 2 ^ 8000) (bq : q.natAbs < 2 ^ 8000) : (C (n + 1)).fn 33 [.d (.int p), .d (.int q)] =
    some (.d (rD (Rat.divInt p q)), [.d (.int p), .d (.int q)]) := by
  rw [show ∀ m xs, (C (m + 1)).fn 33 xs = runF (C m) f33 xs from fun _ _ => rfl, run_f _ _ _ ⟨rfl, rfl⟩]
  simp_arith only [f33]
  have ap : (if p < 0 then -p else p) = (p.natAbs : Int) := by split <;> omega
  have aq : (if q < 0 then -q else q) = (q.natAbs : Int) := by split <;> omega
  simp only [ap, aq]
  generalize hw : whlLoop _ _ _ _ = w
  have H : ∃ o, w = some o ∧ ∃ z, o = .nx [some (.d (.int p)), some (.d (.int q)), some (.d (.int (Int.gcd p q : Nat))), z] := by
    rw [← hw]
    refine whl_inv (fun m ρ => ∃ a b : Nat, ρ = [some (.d (.int p)), some (.d (.int q)), some (.d (.int a)), some (.d (.int b))] ∧ Nat.gcd a b = Int.gcd p q ∧ ((b ≤ a ∧ a * b < 2 ^ m) ∨ (a < b ∧ ∃ k, m = k + 1 ∧ a * b < 2 ^ k))) ?_ fuelW 16001 _ (by decide) ⟨p.natAbs, q.natAbs, rfl, rfl, ?_⟩
    · rintro m ρ ⟨a, b, rfl, hg, hm⟩
      refine ⟨decide ((0 : Int) < b), _, by simp_arith only []; rfl, ?_⟩
      by_cases hb : (0 : Int) < b
      · rw [if_pos (decide_eq_true hb)]
        have hb0 : 0 < b := by omega
        have hb1 : (b : Int) ≠ 0 := by omega
        have hk : ∃ k, m = k + 1 ∧ ((a % b ≤ b ∧ b * (a % b) < 2 ^ k)) := by
          rcases hm with ⟨h1, h2⟩ | ⟨h1, k, rfl, h2⟩
          · cases m with
            | zero =>
              have : 0 < a * b := Nat.mul_pos (by omega) hb0
              omega
            | succ k =>
              refine ⟨k, rfl, Nat.le_of_lt (Nat.mod_lt _ hb0), ?_⟩
              have h3 : 2 * (a % b) ≤ a := by
                have h4 := Nat.mod_add_div a b
                have h5 : 1 ≤ a / b := Nat.div_pos h1 hb0
                have h6 := Nat.mod_lt a hb0
                have h7 : b * 1 ≤ b * (a / b) := Nat.mul_le_mul_left b h5
                omega
              have h8 : b * (2 * (a % b)) ≤ b * a := Nat.mul_le_mul_left b h3
              have h9 : b * (2 * (a % b)) = 2 * (b * (a % b)) := by rw [Nat.mul_left_comm]
              have h10 : b * a = a * b := Nat.mul_comm b a
              rw [Nat.pow_succ] at h2
              omega
          · refine ⟨k, rfl, Nat.le_of_lt (Nat.mod_lt _ hb0), ?_⟩
            rw [Nat.mod_eq_of_lt h1, Nat.mul_comm]
            exact h2
        obtain ⟨k, rfl, h1, h2⟩ := hk
        refine ⟨k, ?o, rfl, ?hb, ?hp⟩
        case hb =>
          simp_arith only [b33_0, if_pos hb1, fmod_nat]
          rfl
        case hp =>
          refine ⟨b, a % b, rfl, ?_, .inl ⟨h1, h2⟩⟩
          rw [← hg, Nat.gcd_comm b, ← Nat.gcd_rec b a, Nat.gcd_comm]
      · rw [if_neg (by simpa using hb)]
        have hb0 : b = 0 := by omega
        subst hb0
        rw [Nat.gcd_zero_right] at hg
        exact ⟨_, by rw [← hg]⟩
    · have hp : p.natAbs * q.natAbs < 2 ^ 16000 := by
        have := Nat.mul_lt_mul'' bp bq
        rwa [← Nat.pow_add] at this
      rcases Nat.lt_or_ge p.natAbs q.natAbs with h | h
      · exact .inr ⟨h, 16000, rfl, hp⟩
      · refine .inl ⟨h, Nat.lt_of_lt_of_le hp ?_⟩
        exact Nat.pow_le_pow_right (by decide) (by decide)
  obtain ⟨o, rfl, z, rfl⟩ := H
  have hg : 0 < Int.gcd p q := Nat.pos_of_ne_zero fun e => by
    have := Int.gcd_eq_zero_iff.mp e
    omega
  have h2 : ∀ g : Int, g.natAbs = Int.gcd p q → divOk g = true := fun g e => by
    unfold divOk
    refine decide_eq_true ⟨by omega, ?_⟩
    have h3 : Int.gcd p q ≤ q.natAbs := Int.gcd_le_natAbs_right p (by omega)
    have h4 : Int.gcd p q < 2 ^ 8000 := Nat.lt_of_le_of_lt h3 bq
    rw [e]
    exact Nat.lt_of_lt_of_le ((Nat.log2_lt (by omega)).mpr h4) (by decide)
  by_cases h : 0 < q
  · have h1 : decide ((0 : Int) < q) = true := decide_eq_true h
    simp_arith (decide := true) only [h1, h2 (Int.gcd p q : Nat) (by omega), lean_rD h]
  · have h1 : decide ((0 : Int) < q) = false := decide_eq_false h
    have e : (0 : Int) - (Int.gcd p q : Nat) = -(Int.gcd p q : Nat) := by omega
    simp_arith (decide := true) only [h1, e, h2 (-(Int.gcd p q : Nat)) (by omega), lean_rDn (show q < 0 by omega)]

end LaK03
set_option Elab.async false
set_option linter.all false
set_option maxRecDepth 100000
set_option maxHeartbeats 1000000
namespace LaK03
open PySem PySem.Spec Eng L2
theorem e__law_minus (n : Nat) (x y : Rat) (hx : Sm 3900 x) (hy : Sm 3900 y) : (C (n + 2)).fn 35 [.d (rD x), .d (rD y)] = some (.d (rD (x - y)), [.d (rD x), .d (rD y)]) := by
  have hp : (x.num * (y.den : Int) - y.num * (x.den : Int)).natAbs < 2 ^ 8000 := sm_up (sm_sub (sm_mul hx.num hy.den) (sm_mul hy.num hx.den)) (by decide)
  have hq : ((x.den : Int) * (y.den : Int)).natAbs < 2 ^ 8000 := sm_up (sm_mul hx.den hy.den) (by decide)
  have h0 : (x.den : Int) * (y.den : Int) ≠ 0 := Int.mul_ne_zero (by have := x.den_pos; omega) (by have := y.den_pos; omega)
  have h := e__law_lean n _ _ h0 hp hq
  rw [← sub_divInt] at h
  rw [show ∀ m xs, (C (m + 1)).fn 35 xs = runF (C m) f35 xs from fun _ _ => rfl, run_f _ _ _ ⟨rfl, rfl⟩]
  simp_arith only [f35, rD, at0, at1, sm_ok (show 3900 ≤ 10000 by decide) hx.num hy.den, sm_ok (show 3900 ≤ 10000 by decide) hy.num hx.den, sm_ok (show 3900 ≤ 10000 by decide) hx.den hy.den, h]

end LaK03
set_option Elab.async false
set_option linter.all false
set_option maxRecDepth 100000
set_option maxHeartbeats 1000000
namespace LaK03
open PySem PySem.Spec Eng L2
theorem e__law_plus (n : Nat) (x y : Rat) (hx : Sm 3900 x) (hy : Sm 3900 y) : (C (n + 2)).fn 34 [.d (rD x), .d (rD y)] = some (.d (rD (x + y)), [.d (rD x), .d (rD y)]) := by
  have hp : (x.num * (y.den : Int) + y.num * (x.den : Int)).natAbs < 2 ^ 8000 := sm_up (sm_add (sm_mul hx.num hy.den) (sm_mul hy.num hx.den)) (by decide)
  have hq : ((x.den : Int) * (y.den : Int)).natAbs < 2 ^ 8000 := sm_up (sm_mul hx.den hy.den) (by decide)
  have h0 : (x.den : Int) * (y.den : Int) ≠ 0 := Int.mul_ne_zero (by have := x.den_pos; omega) (by have := y.den_pos; omega)
  have h := e__law_lean n _ _ h0 hp hq
  rw [← add_divInt] at h
  rw [show ∀ m xs, (C (m + 1)).fn 34 xs = runF (C m) f34 xs from fun _ _ => rfl, run_f _ _ _ ⟨rfl, rfl⟩]
  simp_arith only [f34, rD, at0, at1, sm_ok (show 3900 ≤ 10000 by decide) hx.num hy.den, sm_ok (show 3900 ≤ 10000 by decide) hy.num hx.den, sm_ok (show 3900 ≤ 10000 by decide) hx.den hy.den, h]

end LaK03
set_option Elab.async false
set_option linter.all false
set_option maxRecDepth 100000
set_option maxHeartbeats 1000000
namespace LaK03
open PySem PySem.Spec Eng L2
theorem e__law_times (n : Nat) (x y : Rat) (hx : Sm 3900 x) (hy : Sm 3900 y) : (C (n + 2)).fn 36 [.d (rD x), .d (rD y)] = some (.d (rD (x * y)), [.d (rD x), .d (rD y)]) := by
  have hp : (x.num * y.num).natAbs < 2 ^ 8000 := sm_up (sm_mul hx.num hy.num) (by decide)
  have hq : ((x.den : Int) * (y.den : Int)).natAbs < 2 ^ 8000 := sm_up (sm_mul hx.den hy.den) (by decide)
  have h0 : (x.den : Int) * (y.den : Int) ≠ 0 := Int.mul_ne_zero (by have := x.den_pos; omega) (by have := y.den_pos; omega)
  have h := e__law_lean n _ _ h0 hp hq
  rw [← mul_divInt] at h
  rw [show ∀ m xs, (C (m + 1)).fn 36 xs = runF (C m) f36 xs from fun _ _ => rfl, run_f _ _ _ ⟨rfl, rfl⟩]
  simp_arith only [f36, rD, at0, at1, sm_ok (show 3900 ≤ 10000 by decide) hx.num hy.num, sm_ok (show 3900 ≤ 10000 by decide) hx.den hy.den, h]

end LaK03
set_option Elab.async false
set_option linter.all false
set_option maxRecDepth 100000
set_option maxHeartbeats 1000000
namespace LaK03
open PySem PySem.Spec Eng L2
theorem l__law_dot_0 (n L M : Nat) (l0 : 0 < L) (l1 : L < 2 ^ 3000) (m1 : M < 2 ^ 3000) (A B : D) (S : Rat) (us : List D) (ρ : Eng.Env) (h : ∃ (s : Rat) (a b : List Rat) (k : Nat) (z z2 : Option Val), us = pairUp (a.map rD) (b.map rD) ∧ ρ = [some (.d A), some (.d B), some (.d (rD s)), z, z2] ∧ RK L (M * k) s ∧ k + a.length ≤ 100 ∧ DOK L M a b ∧ sumR s (prodR a b) = S) :
    ∃ o, forLoop (bindT (.tp [(.nm 3), (.nm 4)])) (Eng.execs (C (n + 2)) b37_0) us ρ = some o ∧ ∃ z z2 : Option Val, o = .nx [some (.d A), some (.d B), some (.d (rD S)), z, z2] := by
  refine for_inv (fun us ρ => ∃ (s : Rat) (a b : List Rat) (k : Nat) (z z2 : Option Val), us = pairUp (a.map rD) (b.map rD) ∧ ρ = [some (.d A), some (.d B), some (.d (rD s)), z, z2] ∧ RK L (M * k) s ∧ k + a.length ≤ 100 ∧ DOK L M a b ∧ sumR s (prodR a b) = S) ?_ ?_ us ρ h
  · rintro u us ρ ⟨s, a, b, k, z, z2, hu, rfl, hs, hk, hd, hS⟩
    match a, b, hu, hk, hd, hS with
    | [], _, hu, _, _, _ => simp [pairUp] at hu
    | _ :: _, [], hu, _, _, _ => simp [pairUp] at hu
    | x :: a, y :: b, hu, hk, hd, hS =>
      simp only [List.map_cons, pairUp, List.cons.injEq] at hu
      obtain ⟨rfl, rfl⟩ := hu
      rw [List.length_cons] at hk
      have hx := hd.rk x List.mem_cons_self y List.mem_cons_self
      have h0 := e__law_times n x y (hd.sa x List.mem_cons_self) (hd.sb y List.mem_cons_self)
      have h1 := e__law_plus n s (x * y) (sm_of_rk hs l0 l1 m1 (by omega)) (sm_of_rk (k := 1) (by rw [Nat.mul_one]; exact hx) l0 l1 m1 (by decide))
      refine ⟨[some (.d A), some (.d B), some (.d (rD s)), some (.d (rD x)), some (.d (rD y))], .nx [some (.d A), some (.d B), some (.d (rD (s + x * y))), some (.d (rD x)), some (.d (rD y))], rfl, by simp_arith only [b37_0, h0, h1], s + x * y, a, b, k + 1, _, _, rfl, rfl, ?_, by omega, ⟨hd.l0, hd.l1, hd.m1, by have := hd.len; rw [List.length_cons] at this; omega, fun x hx => hd.sa x (List.mem_cons_of_mem _ hx), fun x hx => hd.sb x (List.mem_cons_of_mem _ hx), fun x hx y hy => hd.rk x (List.mem_cons_of_mem _ hx) y (List.mem_cons_of_mem _ hy)⟩, hS⟩
      rw [Nat.mul_succ]
      exact hs.add l0 hx
  · rintro ρ ⟨s, a, b, k, z, z2, hu, rfl, hs, hk, hd, hS⟩
    match a, b, hu, hS with
    | [], _, _, hS => exact ⟨z, z2, by rw [← hS]; rfl⟩
    | _ :: _, [], _, hS => exact ⟨z, z2, by rw [← hS]; rfl⟩
    | _ :: _, _ :: _, hu, _ => simp [pairUp] at hu
theorem e__law_dot (n L M : Nat) (a b : List Rat) (h : DOK L M a b) : (C (n + 3)).fn 37 [.d (rowD a), .d (rowD b)] = some (.d (rD (dotR a b)), [.d (rowD a), .d (rowD b)]) := by
  obtain ⟨o, h1, z, z2, rfl⟩ := l__law_dot_0 n L M h.l0 h.l1 h.m1 (rowD a) (rowD b) (dotR a b) (pairUp (a.map rD) (b.map rD)) [some (.d (rowD a)), some (.d (rowD b)), some (.d (rD 0)), none, none] ⟨0, a, b, 0, none, none, rfl, rfl, RK.zero, by have := h.len; omega, h, rfl⟩
  rw [rD_zero] at h1
  rw [show ∀ m xs, (C (m + 1)).fn 37 xs = runF (C m) f37 xs from fun _ _ => rfl, run_f _ _ _ ⟨rfl, rfl⟩]
  unfold rowD at h1 ⊢
  simp_arith (decide := true) only [f37, h1]

end LaK03
set_option Elab.async false
set_option linter.all false
set_option maxRecDepth 100000
set_option maxHeartbeats 1000000
namespace LaK03
open PySem PySem.Spec Eng L2
theorem e__law_number (n N : Nat) (xs : List D) (w : W N xs) (hN : N < 999999990) : ∃ x xs', (C (n + 3)).fn 38 [.own xs] = some (.d (rD x), [.own xs']) ∧ RK LB M0 x ∧ W (N + 3) xs' := by
  obtain ⟨way, x1, h1, _, _, w1⟩ := e__law_draw (n + 1) N xs 16 w (by omega) (by decide) (by decide)
  rcases Bool.eq_false_or_eq_true (decide (way < 15)) with h2 | h2
  · obtain ⟨t, x2, h3, hm, w2⟩ := e__law_one n (N + 1) x1 _ _ w1 (by omega) (.inl rfl) (show [PyData.tuple [.int 0, .int 1], .tuple [.int 0, .int 1], .tuple [.int 0, .int 1], .tuple [.int 1, .int 1], .tuple [.int 1, .int 1], .tuple [.int (-1), .int 1], .tuple [.int 2, .int 1], .tuple [.int (-2), .int 1], .tuple [.int 1, .int 2], .tuple [.int (-1), .int 3]] ≠ [] by simp) (by simp)
    have ht : ∃ x, t = rD x ∧ RK LB M0 x := by
      simp only [List.mem_cons, List.not_mem_nil, or_false] at hm
      rcases hm with rfl | rfl | rfl | rfl | rfl | rfl | rfl | rfl | rfl | rfl <;> exact rk_t (by decide)
    obtain ⟨x, rfl, hx⟩ := ht
    refine ⟨x, x2, ?_, hx, w2.mono (by omega)⟩
    rw [show ∀ m xs, (C (m + 1)).fn 38 xs = runF (C m) f38 xs from fun _ _ => rfl, run_f _ _ _ ⟨rfl, rfl⟩]
    simp_arith (decide := true) only [f38, i38_0, h1, h2, h3]
  · obtain ⟨a, x2, h3, a0, a1, w2⟩ := e__law_draw (n + 1) (N + 1) x1 2000001 w1 (by omega) (by decide) (by decide)
    obtain ⟨b, x3, h4, b0, b1, w3⟩ := e__law_draw (n + 1) (N + 1 + 1) x2 60 w2 (by omega) (by decide) (by decide)
    have sm : ∀ i : Int, i.natAbs < 2 ^ 60 → i.natAbs < 2 ^ 8000 := fun i h => sm_up h (by decide)
    have h5 := e__law_lean (n + 1) (a - 1000000) (1 + b) (by omega) (sm _ (by omega)) (sm _ (by omega))
    refine ⟨Rat.divInt (a - 1000000) (1 + b), x3, ?_, ?_, w3⟩
    · rw [show ∀ m xs, (C (m + 1)).fn 38 xs = runF (C m) f38 xs from fun _ _ => rfl, run_f _ _ _ ⟨rfl, rfl⟩]
      simp_arith (decide := true) only [f38, i38_0, h1, h2, h3, h4, h5]
    · have e : 1 + b = ((1 + b).toNat : Int) := by omega
      rw [e]
      exact rk_c ⟨by omega, by omega⟩ (by omega)

end LaK03
set_option Elab.async false
set_option linter.all false
set_option maxRecDepth 100000
set_option maxHeartbeats 1000000
namespace LaK03
open PySem PySem.Spec Eng L2
theorem e__law_numbers (n N k : Nat) (xs : List D) (w : W N xs) (hN : N < 900000000) (hk : k ≤ 100) : ∃ (ts : List Rat) (xs' : List D), (C (n + 4)).fn 39 [.own xs, .d (.int k)] = some (.d (.tuple (ts.map rD)), [.own xs', .d (.int k)]) ∧ ts.length = k ∧ (∀ t ∈ ts, RK LB M0 t) ∧ W (N + 3 * k) xs' := by
  have H : ∃ o, forLoop (bindT (.nm 3)) (Eng.execs (C (n + 3)) b39_0) (Eng.upTo 0 k) [some (.own xs), some (.d (.int k)), some (.own []), none] = some o ∧ ∃ (ts : List Rat) (xs' : List D) (z : Option Val), o = .nx [some (.own xs'), some (.d (.int k)), some (.own (ts.map rD)), z] ∧ ts.length = k ∧ (∀ t ∈ ts, RK LB M0 t) ∧ W (N + 3 * k) xs' := by
    refine for_inv (fun us ρ => ∃ (ts : List Rat) (xs' : List D) (z : Option Val), ρ = [some (.own xs'), some (.d (.int k)), some (.own (ts.map rD)), z] ∧ ts.length + us.length = k ∧ (∀ t ∈ ts, RK LB M0 t) ∧ W (N + 3 * ts.length) xs') ?_ ?_ _ _ ⟨[], xs, none, rfl, by rw [upTo_len]; simp, fun t h => by simp at h, w⟩
    · rintro u us ρ ⟨ts, x1, z, rfl, hl, hr, w1⟩
      rw [List.length_cons] at hl
      obtain ⟨t, x2, h1, ht, w2⟩ := e__law_number n _ x1 w1 (by omega)
      have hs : (ts.map rD).length < szL := Nat.lt_of_lt_of_le (show (ts.map rD).length < 1000 by rw [List.length_map]; omega) (by decide)
      refine ⟨[some (.own x1), some (.d (.int k)), some (.own (ts.map rD)), some (.d u)], .nx [some (.own x2), some (.d (.int k)), some (.own ((ts ++ [t]).map rD)), some (.d u)], by simp_arith only [], ?_, ts ++ [t], x2, _, rfl, by simp; omega, fun s hs => ?_, w2.mono (by simp; omega)⟩
      · simp_arith only [b39_0, h1, if_pos hs, List.map_append, List.map_cons, List.map_nil]
      · rcases List.mem_append.mp hs with m | m
        · exact hr s m
        · rw [List.mem_singleton.mp m]; exact ht
    · rintro ρ ⟨ts, x1, z, rfl, hl, hr, w1⟩
      have : ts.length = k := by simpa using hl
      exact ⟨ts, x1, z, rfl, this, hr, by rw [← this]; exact w1⟩
  obtain ⟨o, ho, ts, x1, z, rfl, h1, h2, h3⟩ := H
  refine ⟨ts, x1, ?_, h1, h2, h3⟩
  rw [show ∀ m xs, (C (m + 1)).fn 39 xs = runF (C m) f39 xs from fun _ _ => rfl, run_f _ _ _ ⟨rfl, rfl⟩]
  simp_arith only [f39, x_rngN k _ (by omega), ho]

end LaK03
set_option Elab.async false
set_option linter.all false
set_option maxRecDepth 100000
set_option maxHeartbeats 1000000
namespace LaK03
open PySem PySem.Spec Eng L2
theorem RKm {L M : Nat} {rows : List (List Rat)} {few : Nat} (h : ∀ r ∈ rows, r.length = few ∧ ∀ x ∈ r, RK L M x) {N : Nat} (hm : M ≤ N) : ∀ r ∈ rows, r.length = few ∧ ∀ x ∈ r, RK L N x := fun r hr => ⟨(h r hr).1, fun x hx => ((h r hr).2 x hx).mono hm⟩
theorem i__law_trial_0 (n N few : Nat) (mo ma ki : Int) (xs : List D) (ro : List (List Rat)) (sp : List Rat) (bl : List Int) (row : List Rat) (tu za zb : Option Val) (w : W N xs) (hN : N < 999999900) (hl : ro.length ≤ 10) :
    ∃ (row' : List Rat) (xs' : List D), Eng.exec (C (n + 4)) i40_0 [some (.own xs), some (.d (.int mo)), some (.d (.int few)), some (.own (List.map rowD ro)), some (.own (List.map rD sp)), some (.own (List.map PyData.int bl)), some (.d (.int ma)), some (.d (.int ki)), tu, some (.d (rowD row)), za, zb, none, none] = some (.nx [some (.own xs'), some (.d (.int mo)), some (.d (.int few)), some (.own (List.map rowD ro)), some (.own (List.map rD sp)), some (.own (List.map PyData.int bl)), some (.d (.int ma)), some (.d (.int ki)), tu, some (.d (rowD row')), za, zb, none, none]) ∧ (row' = row ∨ row' ∈ ro) ∧ W (N + 2) xs' := by
  cases hr : (ro.map rowD).isEmpty with
  | true => exact ⟨row, xs, by simp_arith only [i40_0, eqL0, hr], .inl rfl, w.mono (by omega)⟩
  | false =>
    have h0 : 0 < ro.length := by
      cases ro with
      | nil => cases hr
      | cons _ _ => simp
    obtain ⟨d, x1, h1, d0, d1, w1⟩ := e__law_draw (n + 3) N xs 4 w (by omega) (by decide) (by decide)
    cases c : decide (d = 0) with
    | false => exact ⟨row, x1, by simp_arith only [i40_0, eqL0, hr, h1, eqI, c], .inl rfl, w1.mono (by omega)⟩
    | true =>
      obtain ⟨e, x2, h2, e0, e1, w2⟩ := e__law_draw (n + 3) (N + 1) x1 (ro.map rowD).length w1 (by omega) (by rw [List.length_map]; omega) (by rw [List.length_map]; omega)
      obtain ⟨t, h3, hm⟩ := atI_some (xs := ro.map rowD) e0 e1
      obtain ⟨r, h4, rfl⟩ := List.mem_map.mp hm
      exact ⟨r, x2, by simp_arith only [i40_0, eqL0, hr, h1, eqI, c, h2, h3], .inr h4, w2.mono (by omega)⟩
theorem i__law_trial_1 (n N few : Nat) (mo ma ki : Int) (xs : List D) (ro : List (List Rat)) (sp : List Rat) (bl : List Int) (row : List Rat) (tu za zb : Option Val) (w : W N xs) (hN : N < 999999900) (hl : ro.length ≤ 10) (hf : few ≤ 5) (hr : ∀ r ∈ ro, r.length = few ∧ ∀ x ∈ r, Sm 3900 x) :
    ∃ (row' : List Rat) (za' zb' : Option Val) (xs' : List D), Eng.exec (C (n + 4)) i40_1 [some (.own xs), some (.d (.int mo)), some (.d (.int few)), some (.own (List.map rowD ro)), some (.own (List.map rD sp)), some (.own (List.map PyData.int bl)), some (.d (.int ma)), some (.d (.int ki)), tu, some (.d (rowD row)), za, zb, none, none] = some (.nx [some (.own xs'), some (.d (.int mo)), some (.d (.int few)), some (.own (List.map rowD ro)), some (.own (List.map rD sp)), some (.own (List.map PyData.int bl)), some (.d (.int ma)), some (.d (.int ki)), tu, some (.d (rowD row')), za', zb', none, none]) ∧ (row' = row ∨ ∃ a ∈ ro, ∃ b ∈ ro, row' = List.zipWith (fun x y => x - y) a b) ∧ W (N + 3) xs' := by
  cases hr0 : decide (((ro.map rowD).length : Int) > 1) with
  | false => exact ⟨row, za, zb, xs, by simp_arith only [i40_1, hr0], .inl rfl, w.mono (by omega)⟩
  | true =>
    have h0 : ro.map rowD ≠ [] := fun e => by rw [e] at hr0; cases hr0
    obtain ⟨d, x1, h1, d0, d1, w1⟩ := e__law_draw (n + 3) N xs 6 w (by omega) (by decide) (by decide)
    cases c : decide (d = 0) with
    | false => exact ⟨row, za, zb, x1, by simp_arith only [i40_1, hr0, h1, eqI, c], .inl rfl, w1.mono (by omega)⟩
    | true =>
      obtain ⟨t, x2, h2, m2, w2⟩ := e__law_one (n + 2) (N + 1) x1 _ _ w1 (by omega) (.inr rfl) h0 (by rw [List.length_map]; omega)
      obtain ⟨u, x3, h3, m3, w3⟩ := e__law_one (n + 2) (N + 1 + 1) x2 _ _ w2 (by omega) (.inr rfl) h0 (by rw [List.length_map]; omega)
      obtain ⟨a, ha, rfl⟩ := List.mem_map.mp m2
      obtain ⟨b, hb, rfl⟩ := List.mem_map.mp m3
      have hl2 : (pairUp (a.map rD) (b.map rD)).length ≤ szL := by
        have : ∀ (xs ys : List D), (pairUp xs ys).length ≤ xs.length := by
          intro xs
          induction xs with
          | nil => intro ys; simp [pairUp]
          | cons x xs ih =>
            intro ys
            cases ys with
            | nil => simp [pairUp]
            | cons y ys => simp [pairUp]; exact ih ys
        refine Nat.le_trans (this _ _) (sz1000 ?_)
        rw [List.length_map, (hr a ha).1]
        omega
      refine ⟨List.zipWith (fun x y => x - y) a b, some (.d (rowD a)), some (.d (rowD b)), x3, ?_, .inr ⟨a, ha, b, hb, rfl⟩, w3.mono (by omega)⟩
      have lc := fun (ρ : Eng.Env) (hh) => lc_zip (bind := bindT (.tp [(.nm 12), (.nm 13)])) (cond := denC (C (n + 4)) .nil) (elt := den (C (n + 4)) (.fn 35 (.cons (.var 12) (.cons (.var 13) .nil)))) (own := [12, 13]) (ρ := ρ) (f := rD) (f' := rD) (g := fun x y => rD (x - y)) (as := a) (bs := b) hh
      simp_arith only [i40_1, hr0, h1, eqI, c, h2, h3, rowD, if_pos hl2]
      rw [lc]
      · simp_arith only [List.map_zipWith]
      · intro x hx y hy
        exact ⟨_, _, _, _, rfl, rfl, by simp_arith only [e__law_minus _ x y ((hr a ha).2 x hx) ((hr b hb).2 y hy)]; rfl, rfl, rfl⟩
theorem sp_lit {t : D} (h : t ∈ [PyData.tuple [.int 1, .int 1], .tuple [.int 1, .int 1], .tuple [.int 1, .int 1], .tuple [.int 2, .int 1], .tuple [.int 1, .int 2], .tuple [.int 1, .int 3], .tuple [.int 5, .int 2]]) : ∃ q, t = rD q ∧ 0 < q ∧ RK 6 30 q := by
  have k : ∀ (p : Int) (d : Nat) (hd : d ≠ 0) (c : Nat.Coprime p.natAbs d), d ∣ 6 → 0 < p → p.natAbs * (6 / d) ≤ 30 → ∃ q, PyData.tuple [.int p, .int d] = rD q ∧ 0 < q ∧ RK 6 30 q := fun p d hd c h1 h2 h3 => by
    refine ⟨⟨p, d, hd, c⟩, rfl, ?_, ?_⟩
    · rw [Rat.lt_iff]; simpa using h2
    · rw [Rat.mk_eq_divInt]
      exact RK.of h1 (by decide) h3
  simp only [List.mem_cons, List.not_mem_nil, or_false] at h
  rcases h with rfl | rfl | rfl | rfl | rfl | rfl | rfl
  · exact k 1 1 (by decide) (by decide) (by decide) (by decide) (by decide)
  · exact k 1 1 (by decide) (by decide) (by decide) (by decide) (by decide)
  · exact k 1 1 (by decide) (by decide) (by decide) (by decide) (by decide)
  · exact k 2 1 (by decide) (by decide) (by decide) (by decide) (by decide)
  · exact k 1 2 (by decide) (by decide) (by decide) (by decide) (by decide)
  · exact k 1 3 (by decide) (by decide) (by decide) (by decide) (by decide)
  · exact k 5 2 (by decide) (by decide) (by decide) (by decide) (by decide)
theorem l__law_trial_0 (T n few many : Nat) (mo ki : Int) (hT : T < 900000000) (hf : few ≤ 5) (hm : many ≤ 10) (k0 : 0 ≤ ki) (k5 : ki ≤ 5) (us : List D) (ρ : Eng.Env) (h : ∃ (N : Nat) (xs : List D) (ro : List (List Rat)) (sp : List Rat) (bl : List Int) (tu row za zb : Option Val), ρ = [some (.own xs), some (.d (.int mo)), some (.d (.int few)), some (.own (List.map rowD ro)), some (.own (List.map rD sp)), some (.own (List.map PyData.int bl)), some (.d (.int many)), some (.d (.int ki)), tu, row, za, zb, none, none] ∧ W N xs ∧ N + 40 * us.length ≤ T ∧ ro.length + us.length = many ∧ (∀ r ∈ ro, r.length = few ∧ ∀ x ∈ r, RK LB (M0 * 2 ^ ro.length) x) ∧ sp.length = ro.length ∧ bl.length = ro.length ∧ (∀ s ∈ sp, 0 < s ∧ RK 6 30 s) ∧ (∀ b ∈ bl, 0 ≤ b ∧ b ≤ 4)) :
    ∃ o, forLoop (bindT (.nm 8)) (Eng.execs (C (n + 4)) b40_0) us ρ = some o ∧ ∃ (xs : List D) (ro : List (List Rat)) (sp : List Rat) (bl : List Int) (tu row za zb : Option Val), o = .nx [some (.own xs), some (.d (.int mo)), some (.d (.int few)), some (.own (List.map rowD ro)), some (.own (List.map rD sp)), some (.own (List.map PyData.int bl)), some (.d (.int many)), some (.d (.int ki)), tu, row, za, zb, none, none] ∧ W T xs ∧ ro.length = many ∧ (∀ r ∈ ro, r.length = few ∧ ∀ x ∈ r, RK LB (M0 * 2 ^ ro.length) x) ∧ sp.length = ro.length ∧ bl.length = ro.length ∧ (∀ s ∈ sp, 0 < s ∧ RK 6 30 s) ∧ (∀ b ∈ bl, 0 ≤ b ∧ b ≤ 4) := by
  refine for_inv (fun us ρ => ∃ (N : Nat) (xs : List D) (ro : List (List Rat)) (sp : List Rat) (bl : List Int) (tu row za zb : Option Val), ρ = [some (.own xs), some (.d (.int mo)), some (.d (.int few)), some (.own (List.map rowD ro)), some (.own (List.map rD sp)), some (.own (List.map PyData.int bl)), some (.d (.int many)), some (.d (.int ki)), tu, row, za, zb, none, none] ∧ W N xs ∧ N + 40 * us.length ≤ T ∧ ro.length + us.length = many ∧ (∀ r ∈ ro, r.length = few ∧ ∀ x ∈ r, RK LB (M0 * 2 ^ ro.length) x) ∧ sp.length = ro.length ∧ bl.length = ro.length ∧ (∀ s ∈ sp, 0 < s ∧ RK 6 30 s) ∧ (∀ b ∈ bl, 0 ≤ b ∧ b ≤ 4)) ?_ ?_ us ρ h
  · rintro u us ρ ⟨N, xs, ro, sp, bl, tu, row, za, zb, rfl, w, hN, hl, hr, hs, hb, gs, gb⟩
    rw [List.length_cons] at hN hl
    have hp : M0 * 2 ^ ro.length ≤ M0 * 2 ^ 9 := Nat.mul_le_mul_left _ (Nat.pow_le_pow_right (by decide) (by omega))
    have hsm : ∀ r ∈ ro, r.length = few ∧ ∀ x ∈ r, Sm 3900 x := fun r h => ⟨(hr r h).1, fun x hx => (((hr r h).2 x hx).mono hp).sm (k := 3900) LB_pos (by decide +kernel) (by decide +kernel)⟩
    obtain ⟨r1, x1, h1, l1, g1, w1⟩ := e__law_numbers n N few xs w (by omega) (by omega)
    have h1 : (C (n + 4)).fn 39 [.own xs, .d (.int few)] = some (.d (rowD r1), [.own x1, .d (.int few)]) := h1
    obtain ⟨r2, x2, h2, m2, w2⟩ := i__law_trial_0 n (N + 3 * few) few mo many ki x1 ro sp bl r1 (some (.d u)) za zb w1 (by omega) (by omega)
    obtain ⟨r3, za', zb', x3, h3, m3, w3⟩ := i__law_trial_1 n (N + 3 * few + 2) few mo many ki x2 ro sp bl r2 (some (.d u)) za zb w2 (by omega) (by omega) hf hsm
    obtain ⟨t, x4, h4, m4, w4⟩ := e__law_one (n + 2) (N + 3 * few + 2 + 3) x3 _ _ w3 (by omega) (.inl rfl) (show [PyData.tuple [.int 1, .int 1], .tuple [.int 1, .int 1], .tuple [.int 1, .int 1], .tuple [.int 2, .int 1], .tuple [.int 1, .int 2], .tuple [.int 1, .int 3], .tuple [.int 5, .int 2]] ≠ [] by simp) (by simp)
    obtain ⟨q, rfl, q0, gq⟩ := sp_lit m4
    have b5 : ∃ (b : Int) (x5 : List D), Eng.den (C (n + 4)) (.ite (.prim .gt (.cons (.var 7) (.cons (.k (.int 0)) .nil))) (.fn 31 (.cons (.var 0) (.cons (.var 7) .nil))) (.k (.int 0))) [some (.own x4), some (.d (.int mo)), some (.d (.int few)), some (.own (List.map rowD (ro ++ [r3]))), some (.own (List.map rD (sp ++ [q]))), some (.own (List.map PyData.int bl)), some (.d (.int many)), some (.d (.int ki)), some (.d u), some (.d (rowD r3)), za', zb', none, none] = some (.d (.int b), [some (.own x5), some (.d (.int mo)), some (.d (.int few)), some (.own (List.map rowD (ro ++ [r3]))), some (.own (List.map rD (sp ++ [q]))), some (.own (List.map PyData.int bl)), some (.d (.int many)), some (.d (.int ki)), some (.d u), some (.d (rowD r3)), za', zb', none, none]) ∧ 0 ≤ b ∧ b ≤ 4 ∧ W (N + 3 * few + 2 + 3 + 1 + 1) x5 := by
      by_cases hk : 0 < ki
      · obtain ⟨b, x5, h5, b0, b1, w5⟩ := e__law_draw (n + 3) (N + 3 * few + 2 + 3 + 1) x4 ki w4 (by omega) hk (by omega)
        exact ⟨b, x5, by simp_arith only [decide_eq_true hk, h5], b0, by omega, w5⟩
      · exact ⟨0, x4, by simp_arith only [decide_eq_false hk], by decide, by decide, w4.mono (by omega)⟩
    obtain ⟨b, x5, h5, b0, b4, w5⟩ := b5
    have s1 : (ro.map rowD).length < szL := Nat.lt_of_lt_of_le (show _ < 1000 by rw [List.length_map]; omega) (by decide)
    have s2 : (sp.map rD).length < szL := Nat.lt_of_lt_of_le (show _ < 1000 by rw [List.length_map]; omega) (by decide)
    have s3 : (bl.map PyData.int).length < szL := Nat.lt_of_lt_of_le (show _ < 1000 by rw [List.length_map]; omega) (by decide)
    have e1 : ro.map rowD ++ [rowD r3] = (ro ++ [r3]).map rowD := by rw [List.map_append]; rfl
    have e2 : sp.map rD ++ [rD q] = (sp ++ [q]).map rD := by rw [List.map_append]; rfl
    have e3 : bl.map PyData.int ++ [PyData.int b] = (bl ++ [b]).map PyData.int := by rw [List.map_append]; rfl
    refine ⟨_, .nx [some (.own x5), some (.d (.int mo)), some (.d (.int few)), some (.own (List.map rowD (ro ++ [r3]))), some (.own (List.map rD (sp ++ [q]))), some (.own (List.map PyData.int (bl ++ [b]))), some (.d (.int many)), some (.d (.int ki)), some (.d u), some (.d (rowD r3)), za', zb', none, none], rfl, ?_, N + 3 * few + 2 + 3 + 1 + 1, x5, ro ++ [r3], sp ++ [q], bl ++ [b], some (.d u), some (.d (rowD r3)), za', zb', rfl, w5, by omega, by rw [List.length_append]; simp; omega, ?_, by simp; omega, by simp; omega, ?_, ?_⟩
    · simp_arith (decide := true) only [b40_0, h1, h2, h3, h4, if_pos s1, if_pos s2, if_pos s3, e1, e2, e3, h5]
    · intro r hr2
      rw [List.length_append]
      have up : M0 * 2 ^ ro.length ≤ M0 * 2 ^ (ro.length + 1) := Nat.mul_le_mul_left _ (Nat.pow_le_pow_right (by decide) (by omega))
      have up0 : M0 ≤ M0 * 2 ^ (ro.length + 1) := Nat.le_mul_of_pos_right _ (Nat.pow_pos (by decide))
      rcases List.mem_append.mp hr2 with m | m
      · exact ⟨(hr r m).1, fun x hx => ((hr r m).2 x hx).mono up⟩
      · rw [List.mem_singleton.mp m]
        have g2 : r2.length = few ∧ ∀ x ∈ r2, RK LB (M0 * 2 ^ (ro.length + 1)) x := by
          rcases m2 with rfl | m2
          · exact ⟨l1, fun x hx => (g1 x hx).mono up0⟩
          · exact ⟨(hr r2 m2).1, fun x hx => ((hr r2 m2).2 x hx).mono up⟩
        rcases m3 with rfl | ⟨a, ha, c, hc, rfl⟩
        · exact g2
        · refine ⟨by rw [List.length_zipWith, (hr a ha).1, (hr c hc).1, Nat.min_self], fun x hx => ?_⟩
          obtain ⟨i, hi, rfl⟩ := List.mem_iff_getElem.mp hx
          rw [List.getElem_zipWith]
          have := ((hr a ha).2 _ (List.getElem_mem (by simp at hi; omega : i < a.length))).sub LB_pos ((hr c hc).2 _ (List.getElem_mem (by simp at hi; omega : i < c.length)))
          refine this.mono (Nat.le_of_eq ?_)
          show _ = M0 * 2 ^ (ro.length + 1)
          rw [Nat.pow_succ, ← Nat.mul_assoc]
          omega
    · intro s hs2
      rcases List.mem_append.mp hs2 with m | m
      · exact gs s m
      · rw [List.mem_singleton.mp m]; exact ⟨q0, gq⟩
    · intro s hs2
      rcases List.mem_append.mp hs2 with m | m
      · exact gb s m
      · rw [List.mem_singleton.mp m]; exact ⟨b0, b4⟩
  · rintro ρ ⟨N, xs, ro, sp, bl, tu, row, za, zb, rfl, w, hN, hl, hr, hs, hb, gs, gb⟩
    exact ⟨xs, ro, sp, bl, tu, row, za, zb, rfl, w.mono (by simpa using hN), by simpa using hl, hr, hs, hb, gs, gb⟩
theorem e__law_trial (n N most : Nat) (xs : List D) (w : W N xs) (hN : N < 800000000) (m0 : 1 ≤ most) (m1 : most ≤ 10) :
    ∃ (few : Nat) (rows : List (List Rat)) (sps : List Rat) (bls : List Int) (xs' : List D), (C (n + 5)).fn 40 [.own xs, .d (.int most)] = some (.d (trialD rows sps bls), [.own xs', .d (.int most)]) ∧ DT few most rows sps bls ∧ W (N + 500) xs' := by
  obtain ⟨f, x1, h1, f0, f1, w1⟩ := e__law_draw (n + 3) N xs 5 w (by omega) (by decide) (by decide)
  obtain ⟨m, x2, h2, k0, k1, w2⟩ := e__law_draw (n + 3) (N + 1) x1 most w1 (by omega) (by omega) (by omega)
  obtain ⟨t, x3, h3, m3, w3⟩ := e__law_one (n + 2) (N + 1 + 1) x2 _ _ w2 (by omega) (.inl rfl) (show [PyData.int 0, .int 0, .int 1, .int 2, .int 2, .int 3, .int 5] ≠ [] by simp) (by simp)
  obtain ⟨ki, rfl, c0, c5⟩ : ∃ ki : Int, t = .int ki ∧ 0 ≤ ki ∧ ki ≤ 5 := by
    simp only [List.mem_cons, List.not_mem_nil, or_false] at m3
    rcases m3 with rfl | rfl | rfl | rfl | rfl | rfl | rfl <;> exact ⟨_, rfl, by decide, by decide⟩
  obtain ⟨few, hfew⟩ : ∃ few : Nat, 1 + f = (few : Int) := ⟨(1 + f).toNat, by omega⟩
  obtain ⟨many, hmany⟩ : ∃ many : Nat, 1 + m = (many : Int) := ⟨(1 + m).toNat, by omega⟩
  obtain ⟨o, h4, x4, ro, sp, bl, tu, row, za, zb, rfl, w4, hl, hr, hs, hb, gs, gb⟩ := l__law_trial_0 (N + 450) n few many most ki (by omega) (by omega) (by omega) c0 c5 (Eng.upTo 0 many) [some (.own x3), some (.d (.int most)), some (.d (.int few)), some (.own (List.map rowD [])), some (.own (List.map rD [])), some (.own (List.map PyData.int [])), some (.d (.int many)), some (.d (.int ki)), none, none, none, none, none, none] ⟨N + 1 + 1 + 1, x3, [], [], [], none, none, none, none, rfl, w3, by rw [upTo_len]; omega, by rw [upTo_len]; simp, fun r h => by simp at h, rfl, rfl, fun r h => by simp at h, fun r h => by simp at h⟩
  simp only [List.map_nil] at h4
  have hp : M0 * 2 ^ ro.length ≤ MB := by
    refine Nat.le_trans (Nat.mul_le_mul_left _ (Nat.pow_le_pow_right (by decide) (show ro.length ≤ 10 by omega))) (by decide +kernel)
  by_cases hk : 0 < ki
  · refine ⟨few, ro, sp, bl, x4, ?_, ⟨by omega, by omega, by omega, by omega, RKm hr hp, hs, gs, .inr ⟨hb, gb⟩⟩, w4.mono (by omega)⟩
    rw [show ∀ m xs, (C (m + 1)).fn 40 xs = runF (C m) f40 xs from fun _ _ => rfl, run_f _ _ _ ⟨rfl, rfl⟩]
    simp_arith (decide := true) only [f40, h1, h2, h3, hfew, hmany, x_rngN many _ (show many ≤ 1000 by omega), h4, decide_eq_true hk, trialD, blD]
  · refine ⟨few, ro, sp, [], x4, ?_, ⟨by omega, by omega, by omega, by omega, RKm hr hp, hs, gs, .inl rfl⟩, w4.mono (by omega)⟩
    rw [show ∀ m xs, (C (m + 1)).fn 40 xs = runF (C m) f40 xs from fun _ _ => rfl, run_f _ _ _ ⟨rfl, rfl⟩]
    simp_arith (decide := true) only [f40, h1, h2, h3, hfew, hmany, x_rngN many _ (show many ≤ 1000 by omega), h4, decide_eq_false hk, trialD, blD, List.map_nil]

end LaK03
set_option Elab.async false
set_option linter.all false
set_option maxRecDepth 100000
set_option maxHeartbeats 1000000
namespace LaK03
open PySem PySem.Spec Eng L2
theorem e__law_levels (n : Nat) (a : D) (h : isTrial a = true) : (C (n + 1)).fn 41 [.d a] = some (.d (.int (levD a)), [.d a]) := by
  obtain ⟨r0, rs, sp, bl, rfl, _, _, _, _, _, hb⟩ := trial_parts h
  rw [show ∀ m xs, (C (m + 1)).fn 41 xs = runF (C m) f41 xs from fun _ _ => rfl, run_f _ _ _ ⟨rfl, rfl⟩]
  simp_arith only [f41, a32]
  simp_arith (decide := true) only [eqT0, a32]
  rcases hb with rfl | ⟨hl, hb⟩
  · rfl
  · obtain ⟨ns, h1, h2, h3⟩ := ints_of hb
    cases ns with
    | nil =>
      simp at h2
      subst h2
      rfl
    | cons i ns =>
      have he : bl.isEmpty = false := by rw [h2]; rfl
      simp_arith only [he, a32, maxQ, h1, addQ, levD]

end LaK03
set_option Elab.async false
set_option linter.all false
set_option maxRecDepth 100000
set_option maxHeartbeats 1000000
namespace LaK03
open PySem PySem.Spec Eng L2
theorem l__law_well_0 (n : Nat) (S lap : D) (us : List D) (ρ : Eng.Env) (h : ∃ (m : Int) (z3 : Option Val), ρ = [some (.d S), some (.d lap), some (.d (.int m)), z3, none] ∧ 0 ≤ m ∧ m < 2147483489 ∧ ∀ t ∈ us, ∃ i : Int, t = .int i) :
    ∃ o, forLoop (bindT (.nm 3)) (Eng.execs (C n) b30_0) us ρ = some o ∧ ∃ (m : Int) (z3 : Option Val), o = .nx [some (.d S), some (.d lap), some (.d (.int m)), z3, none] ∧ 0 ≤ m ∧ m < 2147483489 := by
  refine for_inv (fun us ρ => ∃ (m : Int) (z3 : Option Val), ρ = [some (.d S), some (.d lap), some (.d (.int m)), z3, none] ∧ 0 ≤ m ∧ m < 2147483489 ∧ ∀ t ∈ us, ∃ i : Int, t = .int i) ?_ ?_ us ρ h
  · rintro u us ρ ⟨m, z3, rfl, m0, m1, hu⟩
    obtain ⟨i, rfl⟩ := hu u List.mem_cons_self
    have p0 : (0 : Int) < 2147483489 := by decide
    have p1 : (2147483489 : Int) ≠ 0 := by decide
    have c0 := Int.emod_nonneg i p1
    have c1 := Int.emod_lt_of_pos i p0
    have k1 : mulOk m 52361 = true := mulOk_nat m0 (by omega) (by omega) (by omega)
    have k2 : mulOk (i % 2147483489) 7 = true := mulOk_nat c0 (by omega) (by omega) (by omega)
    refine ⟨_, .nx [some (.d S), some (.d lap), some (.d (.int ((m * 52361 + i % 2147483489 * 7 + 19) % 2147483489))), some (.d (.int i)), none], rfl, by simp_arith only [b30_0, k1, k2, if_pos p1, fmod_pos _ p0], _, _, rfl, Int.emod_nonneg _ p1, Int.emod_lt_of_pos _ p0, fun t ht => hu t (List.mem_cons_of_mem _ ht)⟩
  · rintro ρ ⟨m, z3, rfl, m0, m1, _⟩
    exact ⟨m, z3, rfl, m0, m1⟩
theorem e__law_well (n : Nat) (ns : List Int) (lap : Nat) (hl : lap ≤ 10) : ∃ xs : List D, (C (n + 1)).fn 30 [.d (.list (ns.map PyData.int)), .d (.int lap)] = some (.own xs, [.d (.list (ns.map PyData.int)), .d (.int lap)]) ∧ W 0 xs := by
  have p0 : (0 : Int) < 2147483489 := by decide
  have p1 : (2147483489 : Int) ≠ 0 := by decide
  have k0 : mulOk 7919 lap = true := mulOk_nat (by omega) (by omega) (by omega) (by omega)
  obtain ⟨o, h1, m, z3, rfl, m0, m1⟩ := l__law_well_0 n (.list (ns.map PyData.int)) (.int lap) (cut (ns.map PyData.int) none (some 10)) _ ⟨40031 + 7919 * (lap : Int), none, rfl, by omega, by omega, fun t ht => by
    obtain ⟨i, _, rfl⟩ := List.mem_map.mp (cut_mem ht)
    exact ⟨i, rfl⟩⟩
  obtain ⟨own, h2⟩ : ∃ own : Int, Eng.den (C n) (.ite (.prim .lt (.cons (.var 1) (.cons (.prim .len (.cons (.var 0) .nil)) .nil))) (.prim .int (.cons (.prim .idx (.cons (.var 0) (.cons (.var 1) .nil))) .nil)) (.k (.int 0))) [some (.d (.list (ns.map PyData.int))), some (.d (.int lap)), some (.d (.int m)), z3, none] = some (.d (.int own), [some (.d (.list (ns.map PyData.int))), some (.d (.int lap)), some (.d (.int m)), z3, none]) := by
    by_cases c : (lap : Int) < ((ns.map PyData.int).length : Int)
    · obtain ⟨t, h3, hm⟩ := atI_some (xs := ns.map PyData.int) (show (0 : Int) ≤ lap by omega) c
      obtain ⟨i, _, rfl⟩ := List.mem_map.mp hm
      exact ⟨i, by simp_arith only [decide_eq_true c, h3]⟩
    · exact ⟨0, by simp_arith only [decide_eq_false c]⟩
  have c0 := Int.emod_nonneg own p1
  have c1 := Int.emod_lt_of_pos own p0
  have k1 : mulOk m 47 = true := mulOk_nat m0 (by omega) (by omega) (by omega)
  have k2 : mulOk (own % 2147483489) 30109 = true := mulOk_nat c0 (by omega) (by omega) (by omega)
  have ab : (if own < 0 then -own else own) = (own.natAbs : Int) := by split <;> omega
  generalize hy : (m * 47 + own % 2147483489 * 30109 + 5) % 2147483489 = y
  have y0 : 0 ≤ y ∧ y < 2147483489 := by
    rw [← hy]
    exact ⟨Int.emod_nonneg _ p1, Int.emod_lt_of_pos _ p0⟩
  cases d1 : decide (own < 0) with
  | true =>
    refine ⟨[.int own.natAbs, .int y, .int 0], ?_, _, y, 0, rfl, by omega, y0.1, y0.2, by decide, by decide⟩
    rw [show ∀ m xs, (C (m + 1)).fn 30 xs = runF (C m) f30 xs from fun _ _ => rfl, run_f _ _ _ ⟨rfl, rfl⟩]
    simp_arith (decide := true) only [f30, k0, h1, h2, k1, k2, if_pos p1, fmod_pos _ p0, d1, ab, hy]
  | false =>
    cases d2 : decide ((10 : Int) ^ (14 : Int).toNat ≤ own) with
    | true =>
      refine ⟨[.int own.natAbs, .int y, .int 0], ?_, _, y, 0, rfl, by omega, y0.1, y0.2, by decide, by decide⟩
      rw [show ∀ m xs, (C (m + 1)).fn 30 xs = runF (C m) f30 xs from fun _ _ => rfl, run_f _ _ _ ⟨rfl, rfl⟩]
      simp_arith (decide := true) only [f30, k0, h1, h2, k1, k2, if_pos p1, fmod_pos _ p0, d1, d2, ab, hy]
    | false =>
      refine ⟨[.int 0, .int y, .int 0], ?_, _, y, 0, rfl, by omega, y0.1, y0.2, by decide, by decide⟩
      rw [show ∀ m xs, (C (m + 1)).fn 30 xs = runF (C m) f30 xs from fun _ _ => rfl, run_f _ _ _ ⟨rfl, rfl⟩]
      simp_arith (decide := true) only [f30, k0, h1, h2, k1, k2, if_pos p1, fmod_pos _ p0, d1, d2, ab, hy]

end LaK03
set_option Elab.async false
set_option linter.all false
set_option maxRecDepth 100000
set_option maxHeartbeats 1000000
namespace LaK03
open PySem PySem.Spec Eng L2
theorem e__law_world (n N few most : Nat) (xs : List D) (rows : List (List Rat)) (sps : List Rat) (bls : List Int) (w : W N xs) (hN : N < 800000000) (h : DT few most rows sps bls) (hm : most ≤ 10) :
    ∃ (a b : List Rat) (xs' : List D), (C (n + 5)).fn 42 [.own xs, .d (trialD rows sps bls)] = some (.d (.tuple [rowD a, rowD b]), [.own xs', .d (trialD rows sps bls)]) ∧ a.length = few ∧ (b.length : Int) = levN bls ∧ (∀ x ∈ a, RK LB M0 x) ∧ (∀ x ∈ b, RK LB M0 x) ∧ W (N + 30) xs' := by
  have hi := isTrial_trialD h hm
  have hl := e__law_levels (n + 3) _ hi
  rw [levD_trialD] at hl
  obtain ⟨l0, l5⟩ := levN_bound h
  obtain ⟨k, hk⟩ : ∃ k : Nat, levN bls = k := ⟨(levN bls).toNat, by omega⟩
  rw [hk] at hl ⊢
  have f5 := h.few5
  obtain ⟨a, x1, h1, la, ga, w1⟩ := e__law_numbers n N few xs w (by omega) (by omega)
  obtain ⟨b, x2, h2, lb, gb, w2⟩ := e__law_numbers n (N + 3 * few) k x1 w1 (by omega) (by omega)
  refine ⟨a, b, x2, ?_, la, by omega, ga, gb, w2.mono (by omega)⟩
  cases rows with
  | nil => have := h.many0; simp at this
  | cons r0 rs =>
    have lr := (h.row r0 List.mem_cons_self).1
    rw [show ∀ m xs, (C (m + 1)).fn 42 xs = runF (C m) f42 xs from fun _ _ => rfl, run_f _ _ _ ⟨rfl, rfl⟩]
    unfold trialD at hl ⊢
    simp_arith (decide := true) only [f42, a30, List.map_cons, atI0, rowD, List.length_map, lr, h1] at hl ⊢
    simp_arith (decide := true) only [hl, h2]

end LaK03
set_option Elab.async false
set_option linter.all false
set_option maxRecDepth 100000
set_option maxHeartbeats 1000000
namespace LaK03
open PySem PySem.Spec Eng L2
theorem e__law_lot (n N many : Nat) (xs : List D) (w : W N xs) (hN : N < 800000000) (m0 : 1 ≤ many) (m1 : many ≤ 10) :
    ∃ (l : List Nat) (xs' : List D), (C (n + 2)).fn 46 [.own xs, .d (.int many)] = some (.d (lotD l), [.own xs', .d (.int many)]) ∧ LK many l ∧ W (N + 20) xs' := by
  obtain ⟨o, h1, l, x1, z, rfl, asc, lt, w1⟩ := for_idx (bind := bindT (.nm 3)) (body := Eng.execs (C (n + 1)) b46_0) (Q := fun o => ∃ (l : List Nat) (xs : List D) (z : Option Val), o = .nx [some (.own xs), some (.d (.int many)), some (.own (l.map fun k : Nat => PyData.int (k : Int))), z] ∧ l.Pairwise (fun a b => a < b) ∧ (∀ k ∈ l, k < many) ∧ W (N + many) xs) (Eng.upTo 0 many) (fun j ρ => ∃ (l : List Nat) (xs : List D) (z : Option Val), ρ = [some (.own xs), some (.d (.int many)), some (.own (l.map fun k : Nat => PyData.int (k : Int))), z] ∧ l.Pairwise (fun a b => a < b) ∧ (∀ k ∈ l, k < j) ∧ W (N + j) xs ∧ l.length ≤ j) (by
    rintro j hj ρ ⟨l, x1, z, rfl, asc, lt, w1, ll⟩
    have hj2 : j < many := by rw [upTo_len] at hj; exact hj
    rw [upTo_get0 hj]
    obtain ⟨d, x2, h2, d0, d1, w2⟩ := e__law_draw n (N + j) x1 2 w1 (by omega) (by decide) (by decide)
    cases c : decide (d = 0) with
    | true =>
      have s1 : (l.map fun k : Nat => PyData.int (k : Int)).length + [PyData.int (j : Int)].length ≤ szL := sz1000 (by rw [List.length_map]; simp; omega)
      have e1 : (l.map fun k : Nat => PyData.int (k : Int)) ++ [PyData.int (j : Int)] = (l ++ [j]).map fun k : Nat => PyData.int (k : Int) := by rw [List.map_append]; rfl
      refine ⟨_, .nx [some (.own x2), some (.d (.int many)), some (.own ((l ++ [j]).map fun k : Nat => PyData.int (k : Int))), some (.d (.int j))], rfl, by simp_arith (decide := true) only [b46_0, h2, eqI, c, if_pos s1, e1], l ++ [j], x2, _, rfl, ?_, ?_, w2, by simp; omega⟩
      · rw [List.pairwise_append]
        exact ⟨asc, List.pairwise_singleton _ _, fun a ha b hb => by rw [List.mem_singleton.mp hb]; exact lt a ha⟩
      · intro k hk
        rcases List.mem_append.mp hk with m | m
        · have := lt k m; omega
        · rw [List.mem_singleton.mp m]; omega
    | false =>
      have s1 : (l.map fun k : Nat => PyData.int (k : Int)).length + ([] : List D).length ≤ szL := sz1000 (by rw [List.length_map]; simp; omega)
      exact ⟨_, .nx [some (.own x2), some (.d (.int many)), some (.own (l.map fun k : Nat => PyData.int (k : Int))), some (.d (.int j))], rfl, by simp_arith only [b46_0, h2, eqI, c, if_pos s1], l, x2, _, rfl, asc, fun k hk => by have := lt k hk; omega, w2, by omega⟩) (by
    rintro ρ ⟨l, x1, z, rfl, asc, lt, w1, ll⟩
    rw [upTo_len] at lt w1
    exact ⟨l, x1, z, rfl, asc, lt, w1⟩) [some (.own xs), some (.d (.int many)), some (.own []), none] ⟨[], xs, none, rfl, .nil, fun k h => by simp at h, w, by simp⟩
  cases hl : (l.map fun k : Nat => PyData.int (k : Int)).isEmpty with
  | false =>
    refine ⟨l, x1, ?_, ⟨(fun e => by rw [e] at hl; cases hl), asc, lt⟩, w1.mono (by omega)⟩
    rw [show ∀ m xs, (C (m + 1)).fn 46 xs = runF (C m) f46 xs from fun _ _ => rfl, run_f _ _ _ ⟨rfl, rfl⟩]
    simp_arith only [f46, x_rngN many _ (show many ≤ 1000 by omega), h1, eqL0, hl, lotD]
  | true =>
    obtain ⟨d, x2, h2, d0, d1, w2⟩ := e__law_draw n (N + many) x1 many w1 (by omega) (by omega) (by omega)
    obtain ⟨k, rfl⟩ : ∃ k : Nat, d = k := ⟨d.toNat, by omega⟩
    refine ⟨[k], x2, ?_, ⟨by simp, List.pairwise_singleton _ _, fun j hj => by rw [List.mem_singleton.mp hj]; omega⟩, w2.mono (by omega)⟩
    rw [show ∀ m xs, (C (m + 1)).fn 46 xs = runF (C m) f46 xs from fun _ _ => rfl, run_f _ _ _ ⟨rfl, rfl⟩]
    simp_arith (decide := true) only [f46, x_rngN many _ (show many ≤ 1000 by omega), h1, eqL0, hl, lotD, h2, List.map_cons, List.map_nil]

end LaK03
set_option Elab.async false
set_option linter.all false
set_option maxRecDepth 100000
set_option maxHeartbeats 1000000
namespace LaK03
open PySem PySem.Spec Eng L2
theorem e__law_long (n few most : Nat) (rows : List (List Rat)) (sps : List Rat) (bls : List Int) (h : DT few most rows sps bls) (hm : most ≤ 10) :
    (C (n + 2)).fn 43 [.d (trialD rows sps bls)] = some (.own ((longR rows bls rows.length).map rowD), [.d (trialD rows sps bls)]) := by
  have hl := e__law_levels n _ (isTrial_trialD h hm)
  rw [levD_trialD] at hl
  obtain ⟨l0, l5⟩ := levN_bound h
  have m1 := h.many1
  have hk : levN bls = (levK bls : Int) := by unfold levK; omega
  rw [hk] at hl
  obtain ⟨o, h1, z3, z4, z5, rfl⟩ := for_idx (bind := bindT (.tp [(.nm 3), (.nm 4)])) (body := Eng.execs (C (n + 1)) b43_0) (Q := fun o => ∃ z3 z4 z5 : Option Val, o = .nx [some (.d (trialD rows sps bls)), some (.d (.int (levK bls))), some (.own ((longR rows bls rows.length).map rowD)), z3, z4, z5, none]) (Eng.numbered 0 (rows.map rowD)) (fun j ρ => ∃ z3 z4 z5 : Option Val, ρ = [some (.d (trialD rows sps bls)), some (.d (.int (levK bls))), some (.own ((longR rows bls j).map rowD)), z3, z4, z5, none]) (by
    rintro j hj ρ ⟨z3, z4, z5, rfl⟩
    have hj2 : j < rows.length := by rw [numbered_len, List.length_map] at hj; exact hj
    rw [numbered_get2, List.getElem_map, Nat.zero_add]
    have hr := (h.row _ (List.getElem_mem hj2)).1
    have f5 := h.few5
    obtain ⟨b, hb, hb2⟩ : ∃ b : Int, Eng.den (C (n + 1)) (.ite (.prim .gt (.cons (.var 1) (.cons (.k (.int 0)) .nil))) (.prim .idx (.cons (.prim .idx (.cons (.var 0) (.cons (.k (.int 2)) .nil))) (.cons (.var 3) .nil))) (.k (.int 0))) [some (.d (trialD rows sps bls)), some (.d (.int (levK bls))), some (.own ((longR rows bls j).map rowD)), some (.d (.int j)), some (.d (rowD rows[j])), z5, none] = some (.d (.int b), [some (.d (trialD rows sps bls)), some (.d (.int (levK bls))), some (.own ((longR rows bls j).map rowD)), some (.d (.int j)), some (.d (rowD rows[j])), z5, none]) ∧ indR (levK bls) (bls.getD j 0).toNat = (List.range (levK bls)).map fun to : Nat => if (to : Int) = b then (1 : Rat) else 0 := by
      rcases h.bl with rfl | ⟨h1, h2⟩
      · exact ⟨0, by simp_arith (decide := true) only [levK, levN], rfl⟩
      · have hib : j < bls.length := by omega
        have b1 := h2 _ (List.getElem_mem hib)
        have b2 := levN_lt _ (List.getElem_mem hib)
        refine ⟨bls.getD j 0, ?_, ?_⟩
        · have e : decide ((0 : Int) < (levK bls : Int)) = true := decide_eq_true (by omega)
          simp_arith only [e, trialD, a32, blD, atI_map (0 : Int) hib]
        · unfold indR
          rw [getD_at _ hib]
          refine List.map_congr_left fun to _ => ?_
          by_cases e : to = bls[j].toNat
          · rw [if_pos e, if_pos (by omega)]
          · rw [if_neg e, if_neg (by omega)]
    have hz : (Eng.upTo 0 (levK bls)).length ≤ szL := by rw [upTo_len]; exact sz1000 (by omega)
    have lc := fun ρ (hh) => lc_on (bind := bindT (.nm 6)) (cond := denC (C (n + 1)) .nil) (elt := den (C (n + 1)) (.tup (.cons (.prim .int (.cons (.prim .eq (.cons (.var 6) (.cons (.var 5) .nil))) .nil)) (.cons (.k (.int 1)) .nil)))) (own := [6]) (ρ := ρ) (f := fun k : Nat => PyData.int (k : Int)) (g := fun k : Nat => rD (if (k : Int) = b then (1 : Rat) else 0)) (as := List.range (levK bls)) hh
    have lc := lc [some (.d (trialD rows sps bls)), some (.d (.int (levK bls))), some (.own ((longR rows bls j).map rowD)), some (.d (.int j)), some (.d (rowD rows[j])), some (.d (.int b)), none] (fun k _ => ⟨_, _, _, _, rfl, rfl, by simp_arith (decide := true) only [eqI]; rfl, by
      show PyData.tuple [.int (if decide ((k : Int) = b) = true then 1 else 0), .int 1] = _
      by_cases e : (k : Int) = b
      · rw [if_pos e, if_pos (decide_eq_true e)]; rfl
      · rw [if_neg e, if_neg (by simpa using e)]; rfl, rfl⟩)
    have em : (List.range (levK bls)).map (fun k : Nat => rD (if (k : Int) = b then (1 : Rat) else 0)) = (indR (levK bls) (bls.getD j 0).toNat).map rD := by
      rw [hb2, List.map_map]; rfl
    rw [em] at lc
    have s1 : (rows[j].map rD).length + ((indR (levK bls) (bls.getD j 0).toNat).map rD).length ≤ szL := sz1000 (by
      rw [List.length_map, List.length_map, indR, List.length_map, List.length_range]; omega)
    have s2 : ((longR rows bls j).map rowD).length < szL := Nat.lt_of_lt_of_le (show _ < 1000 by rw [List.length_map, longR, List.length_map, List.length_range]; omega) (by decide)
    have e1 : (longR rows bls j).map rowD ++ [.tuple (rows[j].map rD ++ (indR (levK bls) (bls.getD j 0).toNat).map rD)] = (longR rows bls (j + 1)).map rowD := by
      unfold longR
      rw [List.range_succ, List.map_append, List.map_append]
      congr 1
      simp only [List.map_cons, List.map_nil, longAt, rowD, List.map_append, getD_at _ hj2]
    have er : rowD rows[j] = .tuple (rows[j].map rD) := rfl
    rw [er] at hb lc
    rw [er]
    refine ⟨[some (.d (trialD rows sps bls)), some (.d (.int (levK bls))), some (.own ((longR rows bls j).map rowD)), some (.d (.int j)), some (.d (.tuple (rows[j].map rD))), z5, none], .nx [some (.d (trialD rows sps bls)), some (.d (.int (levK bls))), some (.own ((longR rows bls (j + 1)).map rowD)), some (.d (.int j)), some (.d (.tuple (rows[j].map rD))), some (.d (.int b)), none], rfl, ?_, _, _, _, rfl⟩
    simp only [b43_0, x_e1, x_s_asg, hb, Option.bind_some]
    simp_arith only [x_rngN (levK bls) _ (show levK bls ≤ 1000 by omega), if_pos hz, upTo_eq]
    rw [upTo_eq] at hz
    simp_arith only [if_pos hz, lc, if_pos s1, if_pos s2, e1]) (by
    rintro ρ ⟨z3, z4, z5, rfl⟩
    rw [numbered_len, List.length_map]
    exact ⟨z3, z4, z5, rfl⟩) [some (.d (trialD rows sps bls)), some (.d (.int (levK bls))), some (.own []), none, none, none, none] ⟨none, none, none, rfl⟩
  rw [show ∀ m xs, (C (m + 1)).fn 43 xs = runF (C m) f43 xs from fun _ _ => rfl, run_f _ _ _ ⟨rfl, rfl⟩]
  unfold trialD at hl h1 ⊢
  simp_arith only [f43, hl, a30, h1]
theorem e__law_yields (n few most : Nat) (rows : List (List Rat)) (sps : List Rat) (bls : List Int) (w0 w1 : List Rat) (h : DT few most rows sps bls) (hm : most ≤ 10) (hw : WK few bls w0 w1) :
    (C (n + 4)).fn 44 [.d (trialD rows sps bls), .d (.tuple [rowD w0, rowD w1])] = some (.d (rowD (yieldsR rows bls w0 w1)), [.d (trialD rows sps bls), .d (.tuple [rowD w0, rowD w1])]) := by
  have h1 := e__law_long (n + 1) few most rows sps bls h hm
  have m1 := h.many1
  have f5 := h.few5
  have lb := levN_bound h
  have l0 := hw.l0
  have l1 := hw.l1
  have ll : (longR rows bls rows.length).length = rows.length := by rw [longR, List.length_map, List.length_range]
  have hl : ((longR rows bls rows.length).map rowD).length ≤ szL := by
    rw [List.length_map, ll]
    exact sz1000 (by omega)
  have s1 : (w0.map rD).length + (w1.map rD).length ≤ szL := sz1000 (by rw [List.length_map, List.length_map]; omega)
  have e1 : PyData.tuple (w0.map rD ++ w1.map rD) = rowD (w0 ++ w1) := by rw [← List.map_append]; rfl
  have ew0 : rowD w0 = .tuple (w0.map rD) := rfl
  have ew1 : rowD w1 = .tuple (w1.map rD) := rfl
  rw [show ∀ m xs, (C (m + 1)).fn 44 xs = runF (C m) f44 xs from fun _ _ => rfl, run_f _ _ _ ⟨rfl, rfl⟩]
  simp_arith only [f44, h1, if_pos hl]
  have em : (longR rows bls rows.length).map rowD = (List.range rows.length).map (fun i => rowD (longAt rows bls i)) := by rw [longR, List.map_map]; rfl
  rw [em, lc_on (g := fun i => rD (yR rows bls w0 w1 i))]
  · have er : rowD ((List.range rows.length).map (yR rows bls w0 w1)) = .tuple ((List.range rows.length).map fun i => rD (yR rows bls w0 w1 i)) := by
      rw [rowD, List.map_map]; rfl
    simp_arith only [yieldsR, er]
  · intro i hi
    rw [List.mem_range] at hi
    have dk : DOK (LB * LB) (MB * M0) (longAt rows bls i) (w0 ++ w1) := DOK.of LB_pos LB_pos (long_rk h hi) (fun y hy => by
      rcases List.mem_append.mp hy with m | m
      · exact hw.r0 y m
      · exact hw.r1 y m) lb1500 lb1500 mb1500 m01500 (by
      have := (h.row _ (List.getElem_mem hi)).1
      unfold longAt indR levK
      rw [List.length_append, getD_at _ hi, this, List.length_map, List.length_range]
      omega)
    have h2 := e__law_dot n _ _ _ _ dk
    rw [long_dot h hw hi] at h2
    refine ⟨_, _, .d (rD (yR rows bls w0 w1 i)), [some (.d (trialD rows sps bls)), some (.d (.tuple [rowD w0, rowD w1])), some (.d (rowD (longAt rows bls i)))], rfl, rfl, ?_, rfl, rfl⟩
    rw [ew0, ew1]
    simp_arith only [at0, at1, if_pos s1, e1, h2]

end LaK03
set_option Elab.async false
set_option linter.all false
set_option maxRecDepth 100000
set_option maxHeartbeats 1000000
namespace LaK03
open PySem PySem.Spec Eng L2
theorem l__law_asked_1 (n few most B : Nat) (xs : List D) (rows : List (List Rat)) (sps : List Rat) (bls : List Int) (h : DT few most rows sps bls) (hB : B ≤ 5 * MQ) (a t : Nat) (ha : a < rows.length) (ht : t < rows.length) (y : Rat) (hy : RK LB M0 y) (b : Bool) (fo : List Rat) (hf : fo.length = few) (gf : ∀ x ∈ fo, RK (LB * LB) B x) (tu sp pa : Option Val) :
    ∃ o, forLoop (bindT (.nm 11)) (Eng.execs (C (n + 2)) b45_1) (Eng.upTo 0 few) [some (.own xs), some (.d (trialD rows sps bls)), some (.d (.int few)), some (.own (List.map rowD (longR rows bls rows.length))), some (.own (List.map rD fo)), some (.d (.int (levK bls))), tu, some (.d (.int a)), some (.d (.int t)), some (.d (rD y)), some (.d (.bool b)), sp, pa] = some o ∧ ∃ (fo : List Rat) (sp pa : Option Val), o = .nx [some (.own xs), some (.d (trialD rows sps bls)), some (.d (.int few)), some (.own (List.map rowD (longR rows bls rows.length))), some (.own (List.map rD fo)), some (.d (.int (levK bls))), tu, some (.d (.int a)), some (.d (.int t)), some (.d (rD y)), some (.d (.bool b)), sp, pa] ∧ fo.length = few ∧ ∀ x ∈ fo, RK (LB * LB) (B + MQ) x := by
  refine for_idx (Eng.upTo 0 few) (fun j ρ => ∃ (fo : List Rat) (sp pa : Option Val), ρ = [some (.own xs), some (.d (trialD rows sps bls)), some (.d (.int few)), some (.own (List.map rowD (longR rows bls rows.length))), some (.own (List.map rD fo)), some (.d (.int (levK bls))), tu, some (.d (.int a)), some (.d (.int t)), some (.d (rD y)), some (.d (.bool b)), sp, pa] ∧ fo.length = few ∧ ∀ (i : Nat) (hi : i < fo.length), RK (LB * LB) (if i < j then B + MQ else B) fo[i]) ?_ ?_ _ ⟨fo, sp, pa, rfl, hf, fun i hi => by rw [if_neg (Nat.not_lt_zero i)]; exact gf _ (List.getElem_mem hi)⟩
  · rintro j hj ρ ⟨fo, sp, pa, rfl, hf, gf⟩
    rw [upTo_get0 hj]
    rw [upTo_len] at hj
    have la := long_len h ha
    have lt := long_len h ht
    have ja : j < (longAt rows bls a).length := by omega
    have jt : j < (longAt rows bls t).length := by omega
    have jf : j < fo.length := by omega
    have ga := long_rk h ha _ (List.getElem_mem ja)
    have gt := long_rk h ht _ (List.getElem_mem jt)
    have er : ∀ r, rowD r = .tuple (r.map rD) := fun _ => rfl
    have e1 : atI ((longAt rows bls a).map rD) (j : Int) = some (rD (longAt rows bls a)[j]) := by rw [atI_map (0 : Rat) ja, getD_at _ ja]
    have e2 : atI ((longAt rows bls t).map rD) (j : Int) = some (rD (longAt rows bls t)[j]) := by rw [atI_map (0 : Rat) jt, getD_at _ jt]
    have e3 : atI (fo.map rD) (j : Int) = some (rD fo[j]) := by rw [atI_map (0 : Rat) jf, getD_at _ jf]
    have hmin := e__law_minus n _ _ (rk_sm (k := 3900) ga mb1500 (by decide)) (rk_sm (k := 3900) gt mb1500 (by decide))
    obtain ⟨p, hp, gp⟩ : ∃ p : Rat, Eng.den (C (n + 2)) (.ite (.prim .eq (.cons (.var 5) (.cons (.k (.int 0)) .nil))) (.prim .idx (.cons (.prim .idx (.cons (.var 3) (.cons (.var 7) .nil))) (.cons (.var 11) .nil))) (.fn 35 (.cons (.prim .idx (.cons (.prim .idx (.cons (.var 3) (.cons (.var 7) .nil))) (.cons (.var 11) .nil))) (.cons (.prim .idx (.cons (.prim .idx (.cons (.var 3) (.cons (.var 8) .nil))) (.cons (.var 11) .nil))) .nil)))) [some (.own xs), some (.d (trialD rows sps bls)), some (.d (.int few)), some (.own (List.map rowD (longR rows bls rows.length))), some (.own (List.map rD fo)), some (.d (.int (levK bls))), tu, some (.d (.int a)), some (.d (.int t)), some (.d (rD y)), some (.d (.bool b)), some (.d (.int j)), pa] = some (.d (rD p), [some (.own xs), some (.d (trialD rows sps bls)), some (.d (.int few)), some (.own (List.map rowD (longR rows bls rows.length))), some (.own (List.map rD fo)), some (.d (.int (levK bls))), tu, some (.d (.int a)), some (.d (.int t)), some (.d (rD y)), some (.d (.bool b)), some (.d (.int j)), pa]) ∧ RK LB (2 * MB) p := by
      cases c : decide ((levK bls : Int) = 0) with
      | true => exact ⟨_, by simp_arith only [eqI, c, long_at ha, er (longAt rows bls a), e1], ga.mono (by omega)⟩
      | false => exact ⟨_, by simp_arith only [eqI, c, long_at ha, long_at ht, er (longAt rows bls a), er (longAt rows bls t), e1, e2, hmin], (ga.sub LB_pos gt).mono (by omega)⟩
    have htm := e__law_times n y p (rk_sm (k := 3900) hy m01500 (by decide)) (rk_sm (k := 3900) gp (by decide +kernel) (by decide))
    have gm : RK (LB * LB) MQ (y * p) := hy.mul gp
    have gfj := gf j jf
    rw [if_neg (Nat.lt_irrefl j)] at gfj
    have hB2 : B < 2 ^ 1500 := by have := mq1500; omega
    have hpl := e__law_plus n fo[j] (y * p) (rk2_sm (k := 3900) gfj hB2 (by decide)) (rk2_sm (k := 3900) gm (by have := mq1500; omega) (by decide))
    have ix : ixN (fo.map rD).length (j : Int) = some j := ixN_nat (by rw [List.length_map]; exact jf)
    have es : ∀ v : Rat, (fo.map rD).set j (rD v) = (fo.set j v).map rD := fun v => by rw [List.map_set]
    have key : ∀ v : Rat, RK (LB * LB) (B + MQ) v → ∀ (i : Nat) (hi : i < (fo.set j v).length), RK (LB * LB) (if i < j + 1 then B + MQ else B) (fo.set j v)[i] := fun v gv i hi => by
      have hi2 : i < fo.length := by rw [List.length_set] at hi; exact hi
      by_cases c : j = i
      · subst c
        rw [List.getElem_set_self, if_pos (by omega)]
        exact gv
      · rw [List.getElem_set_ne c]
        have := gf i hi2
        by_cases c2 : i < j
        · rw [if_pos c2] at this
          rw [if_pos (by omega)]
          exact this
        · rw [if_neg c2] at this
          rw [if_neg (by omega)]
          exact this
    cases b with
    | true =>
      refine ⟨[some (.own xs), some (.d (trialD rows sps bls)), some (.d (.int few)), some (.own (List.map rowD (longR rows bls rows.length))), some (.own (List.map rD fo)), some (.d (.int (levK bls))), tu, some (.d (.int a)), some (.d (.int t)), some (.d (rD y)), some (.d (.bool true)), some (.d (.int j)), pa], .nx [some (.own xs), some (.d (trialD rows sps bls)), some (.d (.int few)), some (.own (List.map rowD (longR rows bls rows.length))), some (.own (List.map rD (fo.set j (fo[j] + y * p)))), some (.d (.int (levK bls))), tu, some (.d (.int a)), some (.d (.int t)), some (.d (rD y)), some (.d (.bool true)), some (.d (.int j)), some (.d (rD p))], rfl, ?_, _, _, _, rfl, by rw [List.length_set]; exact hf, key _ (gfj.add lb2_pos gm)⟩
      simp only [b45_1, x_e1, x_s_asg, hp, Option.bind_some]
      simp_arith only [e3, htm, hpl, ix, es]
    | false =>
      refine ⟨[some (.own xs), some (.d (trialD rows sps bls)), some (.d (.int few)), some (.own (List.map rowD (longR rows bls rows.length))), some (.own (List.map rD fo)), some (.d (.int (levK bls))), tu, some (.d (.int a)), some (.d (.int t)), some (.d (rD y)), some (.d (.bool false)), some (.d (.int j)), pa], .nx [some (.own xs), some (.d (trialD rows sps bls)), some (.d (.int few)), some (.own (List.map rowD (longR rows bls rows.length))), some (.own (List.map rD (fo.set j fo[j]))), some (.d (.int (levK bls))), tu, some (.d (.int a)), some (.d (.int t)), some (.d (rD y)), some (.d (.bool false)), some (.d (.int j)), some (.d (rD p))], rfl, ?_, _, _, _, rfl, by rw [List.length_set]; exact hf, key _ (gfj.mono (by omega))⟩
      simp only [b45_1, x_e1, x_s_asg, hp, Option.bind_some]
      simp_arith only [e3, ix, es]
  · rintro ρ ⟨fo, sp, pa, rfl, hf, gf⟩
    refine ⟨fo, sp, pa, rfl, hf, fun x hx => ?_⟩
    obtain ⟨i, hi, rfl⟩ := List.mem_iff_getElem.mp hx
    have := gf i hi
    rw [upTo_len] at this
    rwa [if_pos (by omega)] at this
theorem l__law_asked_0 (n T few most : Nat) (hT : T < 800000000) (rows : List (List Rat)) (sps : List Rat) (bls : List Int) (h : DT few most rows sps bls) (hm : most ≤ 10) (k N : Nat) (hk : k ≤ 3) (xs : List D) (w : W N xs) (hN : N + 10 * k ≤ T) (fo : List Rat) (hf : fo.length = few) (gf : ∀ x ∈ fo, RK (LB * LB) 0 x) :
    ∃ o, forLoop (bindT (.nm 6)) (Eng.execs (C (n + 3)) b45_0) (Eng.upTo 0 k) [some (.own xs), some (.d (trialD rows sps bls)), some (.d (.int few)), some (.own (List.map rowD (longR rows bls rows.length))), some (.own (List.map rD fo)), some (.d (.int (levK bls))), none, none, none, none, none, none, none] = some o ∧ ∃ (xs : List D) (fo : List Rat) (tu a t y b sp pa : Option Val), o = .nx [some (.own xs), some (.d (trialD rows sps bls)), some (.d (.int few)), some (.own (List.map rowD (longR rows bls rows.length))), some (.own (List.map rD fo)), some (.d (.int (levK bls))), tu, a, t, y, b, sp, pa] ∧ fo.length = few ∧ (∀ x ∈ fo, RK (LB * LB) (3 * MQ) x) ∧ W T xs := by
  refine for_idx (Eng.upTo 0 k) (fun j ρ => ∃ (xs : List D) (fo : List Rat) (tu a t y b sp pa : Option Val), ρ = [some (.own xs), some (.d (trialD rows sps bls)), some (.d (.int few)), some (.own (List.map rowD (longR rows bls rows.length))), some (.own (List.map rD fo)), some (.d (.int (levK bls))), tu, a, t, y, b, sp, pa] ∧ fo.length = few ∧ (∀ x ∈ fo, RK (LB * LB) (j * MQ) x) ∧ W (N + 10 * j) xs) ?_ ?_ _ ⟨xs, fo, none, none, none, none, none, none, none, rfl, hf, fun x hx => (gf x hx).mono (by omega), w⟩
  · rintro j hj ρ ⟨xs, fo, tu, a, t, y, b, sp, pa, rfl, hf, gf, w⟩
    rw [upTo_get0 hj]
    rw [upTo_len] at hj
    have m0 := h.many0
    have m1 := h.many1
    have ll : ((longR rows bls rows.length).map rowD).length = rows.length := by rw [List.length_map, longR, List.length_map, List.length_range]
    obtain ⟨a1, x1, h1, a0, a2, w1⟩ := e__law_draw (n + 2) (N + 10 * j) xs rows.length w (by omega) (by omega) (by omega)
    obtain ⟨t1, x2, h2, t0, t2, w2⟩ := e__law_draw (n + 2) (N + 10 * j + 1) x1 rows.length w1 (by omega) (by omega) (by omega)
    obtain ⟨y1, x3, h3, gy, w3⟩ := e__law_number n (N + 10 * j + 1 + 1) x2 w2 (by omega)
    obtain ⟨ka, rfl⟩ : ∃ ka : Nat, a1 = ka := ⟨a1.toNat, by omega⟩
    obtain ⟨kt, rfl⟩ : ∃ kt : Nat, t1 = kt := ⟨t1.toNat, by omega⟩
    obtain ⟨b1, hb⟩ : ∃ b1 : Bool, Eng.den (C (n + 3)) (.or (.prim .eq (.cons (.var 5) (.cons (.k (.int 0)) .nil))) (.prim .eq (.cons (.prim .idx (.cons (.prim .idx (.cons (.var 1) (.cons (.k (.int 2)) .nil))) (.cons (.var 7) .nil))) (.cons (.prim .idx (.cons (.prim .idx (.cons (.var 1) (.cons (.k (.int 2)) .nil))) (.cons (.var 8) .nil))) .nil)))) [some (.own x3), some (.d (trialD rows sps bls)), some (.d (.int few)), some (.own (List.map rowD (longR rows bls rows.length))), some (.own (List.map rD fo)), some (.d (.int (levK bls))), some (.d (.int j)), some (.d (.int ka)), some (.d (.int kt)), some (.d (rD y1)), b, sp, pa] = some (.d (.bool b1), [some (.own x3), some (.d (trialD rows sps bls)), some (.d (.int few)), some (.own (List.map rowD (longR rows bls rows.length))), some (.own (List.map rD fo)), some (.d (.int (levK bls))), some (.d (.int j)), some (.d (.int ka)), some (.d (.int kt)), some (.d (rD y1)), b, sp, pa]) := by
      cases c : decide ((levK bls : Int) = 0) with
      | true => exact ⟨true, by simp_arith only [eqI, c]⟩
      | false =>
        rcases h.bl with rfl | ⟨hb1, hb2⟩
        · exact absurd c (by decide)
        · exact ⟨decide (bls.getD ka 0 = bls.getD kt 0), by simp_arith only [eqI, c, trialD, a32, blD, atI_map (0 : Int) (show ka < bls.length by omega), atI_map (0 : Int) (show kt < bls.length by omega)]⟩
    obtain ⟨o, h4, fo2, sp2, pa2, rfl, hf2, gf2⟩ := l__law_asked_1 (n + 1) few most (j * MQ) x3 rows sps bls h (Nat.mul_le_mul_right _ (by omega)) ka kt (by omega) (by omega) y1 gy b1 fo hf gf (some (.d (.int j))) sp pa
    have f5 := h.few5
    refine ⟨[some (.own xs), some (.d (trialD rows sps bls)), some (.d (.int few)), some (.own (List.map rowD (longR rows bls rows.length))), some (.own (List.map rD fo)), some (.d (.int (levK bls))), some (.d (.int j)), a, t, y, b, sp, pa], .nx [some (.own x3), some (.d (trialD rows sps bls)), some (.d (.int few)), some (.own (List.map rowD (longR rows bls rows.length))), some (.own (List.map rD fo2)), some (.d (.int (levK bls))), some (.d (.int j)), some (.d (.int ka)), some (.d (.int kt)), some (.d (rD y1)), some (.d (.bool b1)), sp2, pa2], rfl, ?_, _, _, _, _, _, _, _, _, _, rfl, hf2, fun x hx => (gf2 x hx).mono (by rw [Nat.succ_mul]; exact Nat.le_refl _), w3.mono (by omega)⟩
    unfold b45_0
    generalize (ME.or (.prim .eq (.cons (.var 5) (.cons (.k (.int 0)) .nil))) (.prim .eq (.cons (.prim .idx (.cons (.prim .idx (.cons (.var 1) (.cons (.k (.int 2)) .nil))) (.cons (.var 7) .nil))) (.cons (.prim .idx (.cons (.prim .idx (.cons (.var 1) (.cons (.k (.int 2)) .nil))) (.cons (.var 8) .nil))) .nil)))) = E10 at hb ⊢
    simp_arith only [ll, h1, h2, h3, hb, x_rngN few _ (show few ≤ 1000 by omega), h4]
  · rintro ρ ⟨xs, fo, tu, a, t, y, b, sp, pa, rfl, hf, gf, w⟩
    rw [upTo_len] at gf w
    exact ⟨xs, fo, tu, a, t, y, b, sp, pa, rfl, hf, fun x hx => (gf x hx).mono (Nat.mul_le_mul_right _ hk), w.mono (by omega)⟩
theorem e__law_asked (n N few most : Nat) (xs : List D) (rows : List (List Rat)) (sps : List Rat) (bls : List Int) (w : W N xs) (hN : N < 700000000) (h : DT few most rows sps bls) (hm : most ≤ 10) :
    ∃ (q : List Rat) (xs' : List D), (C (n + 5)).fn 45 [.own xs, .d (trialD rows sps bls)] = some (.d (rowD q), [.own xs', .d (trialD rows sps bls)]) ∧ q.length = few ∧ (∀ x ∈ q, RK (LB * LB) (5 * MQ) x) ∧ W (N + 60) xs' := by
  have h1 := e__law_long (n + 2) few most rows sps bls h hm
  have hl := e__law_levels (n + 3) _ (isTrial_trialD h hm)
  rw [levD_trialD] at hl
  have lb := levN_bound h
  have hk : levN bls = (levK bls : Int) := by unfold levK; omega
  rw [hk] at hl
  have f5 := h.few5
  have er : ∀ q, rowD q = .tuple (q.map rD) := fun _ => rfl
  obtain ⟨r0, R, hrows⟩ : ∃ (r0 : List Rat) (R : List (List Rat)), rows = r0 :: R := by
    cases rows with
    | nil => have := h.many0; simp at this
    | cons r0 R => exact ⟨r0, R, rfl⟩
  have lr : r0.length = few := (h.row r0 (by rw [hrows]; exact List.mem_cons_self)).1
  have ec : rows.map rowD = rowD r0 :: R.map rowD := by rw [hrows]; rfl
  obtain ⟨d, x1, h2, d0, d1, w1⟩ := e__law_draw (n + 3) N xs 2 w (by omega) (by decide) (by decide)
  cases c : decide (d = 0) with
  | true =>
    obtain ⟨q, x2, h3, lq, gq, w2⟩ := e__law_numbers n (N + 1) few x1 w1 (by omega) (by omega)
    refine ⟨q, x2, ?_, lq, fun x hx => ((gq x hx).scale LB_pos).mono ?_, w2.mono (by omega)⟩
    · rw [show ∀ m xs, (C (m + 1)).fn 45 xs = runF (C m) f45 xs from fun _ _ => rfl, run_f _ _ _ ⟨rfl, rfl⟩]
      unfold trialD at h1 ⊢
      rw [ec, er r0] at h1 ⊢
      simp_arith (decide := true) only [f45, i45_0, a30, atI0, List.length_map, lr, h1, h2, eqI, c, h3, er q]
    · have : MQ = M0 * (2 * MB) := rfl
      have h2 : LB ≤ 5 * (2 * MB) := by decide +kernel
      have := Nat.mul_le_mul_left M0 h2
      unfold MQ
      rw [Nat.mul_left_comm]
      exact this
  | false =>
    obtain ⟨k, x2, h3, k0, k1, w2⟩ := e__law_draw (n + 3) (N + 1) x1 3 w1 (by omega) (by decide) (by decide)
    obtain ⟨kk, hkk⟩ : ∃ kk : Nat, 1 + k = (kk : Int) := ⟨(1 + k).toNat, by omega⟩
    obtain ⟨o, h4, x3, q, tu, a, t, y, b, sp, pa, rfl, lq, gq, w3⟩ := l__law_asked_0 (n + 1) (N + 50) few most (by omega) rows sps bls h hm kk (N + 1 + 1) (by omega) x2 w2 (by omega) (List.replicate few 0) (by simp) (fun x hx => by rw [(List.mem_replicate.mp hx).2]; exact RK.zero)
    refine ⟨q, x3, ?_, lq, fun x hx => (gq x hx).mono (by omega), w3.mono (by omega)⟩
    have e0 : (List.replicate (few : Int).toNat [PyData.tuple [.int 0, .int 1]]).flatten = (List.replicate few (0 : Rat)).map rD := by
      rw [Int.toNat_natCast, repl_one, List.map_replicate]; rfl
    have s1 : [PyData.tuple [.int 0, .int 1]].length ≤ 1000 := by simp
    have s2 : (few : Int) ≤ 1000 := by omega
    have s3 : (-1000 : Int) ≤ (few : Int) := by omega
    rw [show ∀ m xs, (C (m + 1)).fn 45 xs = runF (C m) f45 xs from fun _ _ => rfl, run_f _ _ _ ⟨rfl, rfl⟩]
    unfold trialD at h1 hl h4 ⊢
    rw [ec, er r0] at h1 hl h4 ⊢
    simp_arith (decide := true) only [f45, i45_0, a30, atI0, List.length_map, lr, h1, h2, eqI, c, s1, s2, s3, and_self, e0, hl, h3, hkk, x_rngN kk _ (show kk ≤ 1000 by omega), er q, h4]

end LaK03
set_option Elab.async false
set_option linter.all false
set_option maxRecDepth 100000
set_option maxHeartbeats 1000000
namespace LaK03
open PySem PySem.Spec Eng L2
theorem i__law_right_0 (n few : Nat) (xs : List D) (tu ow to ro sp bl fe le at_ : Option Val) (rows : List (List Rat)) (sps : List Rat) (bls : List Int) (w0 w1 : List Rat) (qs lo : Option Val) (h : DT few 10 rows sps bls) (hw : WK few bls w0 w1) :
    Eng.exec (C (n + 8)) i47_0 [some (.own xs), tu, some (.d (trialD rows sps bls)), some (.d (.tuple [rowD w0, rowD w1])), qs, lo, some (.d (rowD (yieldsR rows bls w0 w1))), ow, to, ro, sp, bl, fe, le, at_] = some (.nx [some (.own xs), tu, some (.d (trialD rows sps bls)), some (.d (.tuple [rowD w0, rowD w1])), qs, lo, some (.d (rowD (yieldsR rows bls w0 w1))), ow, to, ro, sp, bl, fe, le, at_]) := by
  have h1 := e_yields (n + 1) few 10 rows sps bls w0 w1 h (by decide) hw
  have ly : (yieldsR rows bls w0 w1).length = rows.length := by rw [yieldsR, List.length_map, List.length_range]
  have p0 := PO.row (r := yieldsR rows bls w0 w1) (n := 30) (by have := h.many1; omega) (yields_sm h hw)
  generalize yieldsR rows bls w0 w1 = Y at *
  have p := PO.l2 p0 p0
  simp_arith (decide := true) only [i47_0, h1, p.shaped (by decide), p.show_, p.len (by decide), p.eqS, Bool.and_self, Bool.true_and]
theorem i__law_right_1 (n : Nat) (xs : List D) (tu tr wo qs lo du ro sp bl fe le at_ : Option Val) (a : Rat) (ha : Sm 1800 a) :
    Eng.exec (C (n + 8)) i47_1 [some (.own xs), tu, tr, wo, qs, lo, du, some (.d (rD a)), some (.own [rD a, rD a]), ro, sp, bl, fe, le, at_] = some (.nx [some (.own xs), tu, tr, wo, qs, lo, du, some (.d (rD a)), some (.own [rD a, rD a]), ro, sp, bl, fe, le, at_]) := by
  have p := PO.l2 (PO.rat ha) (PO.rat ha)
  simp_arith (decide := true) only [i47_1, p.shaped (by decide), p.show_, p.len (by decide), p.eqS, Bool.and_self, Bool.true_and]
theorem i__law_right_2 (n few : Nat) (xs : List D) (tu wo qs du ow to ro sp bl le at_ : Option Val) (rows : List (List Rat)) (sps : List Rat) (bls : List Int) (l : List Nat) (h : DT few 10 rows sps bls) (hl : LK rows.length l) :
    Eng.exec (C (n + 8)) i47_2 [some (.own xs), tu, some (.d (trialD rows sps bls)), wo, qs, some (.d (lotD l)), du, ow, to, ro, sp, bl, some (.d (trialD (pickL l rows []) (pickL l sps 0) (pickB l bls))), le, at_] = some (.nx [some (.own xs), tu, some (.d (trialD rows sps bls)), wo, qs, some (.d (lotD l)), du, ow, to, ro, sp, bl, some (.d (trialD (pickL l rows []) (pickL l sps 0) (pickB l bls))), le, at_]) := by
  have h1 := e_plots_of (n + 1) few 10 rows sps bls l h (by decide) hl
  have p0 := PO.trial (few_DT h hl) (by decide)
  generalize trialD (pickL l rows []) (pickL l sps 0) (pickB l bls) = F at *
  have p := PO.l2 p0 p0
  simp_arith (decide := true) only [i47_2, h1, p.shaped (by decide), p.show_, p.len (by decide), p.eqS, Bool.and_self, Bool.true_and]
theorem i__law_right_3 (n few : Nat) (xs : List D) (tu tr wo qs ow to ro sp bl at_ : Option Val) (rows : List (List Rat)) (sps : List Rat) (bls : List Int) (w0 w1 : List Rat) (l : List Nat) (h : DT few 10 rows sps bls) (hw : WK few bls w0 w1) (hl : LK rows.length l) :
    Eng.exec (C (n + 8)) i47_3 [some (.own xs), tu, tr, wo, qs, some (.d (lotD l)), some (.d (rowD (yieldsR rows bls w0 w1))), ow, to, ro, sp, bl, some (.d (trialD (pickL l rows []) (pickL l sps 0) (pickB l bls))), some (.d (.tuple [rowD w0, rowD (w1.take (levK (pickB l bls)))])), none] = some (.nx [some (.own xs), tu, tr, wo, qs, some (.d (lotD l)), some (.d (rowD (yieldsR rows bls w0 w1))), ow, to, ro, sp, bl, some (.d (trialD (pickL l rows []) (pickL l sps 0) (pickB l bls))), some (.d (.tuple [rowD w0, rowD (w1.take (levK (pickB l bls)))])), none]) := by
  have h1 := e_yields (n + 1) few 10 _ _ _ w0 _ (few_DT h hl) (by decide) (few_WK h hl hw)
  rw [few_yields h hl hw] at h1
  have ly : (yieldsR rows bls w0 w1).length = rows.length := by rw [yieldsR, List.length_map, List.length_range]
  have ll := hl.len
  have m1 := h.many1
  have p := PO.row (r := pickL l (yieldsR rows bls w0 w1) 0) (n := 30) (by rw [pickL, List.length_map]; omega) (fun x hx => yields_sm h hw x (pickL_mem (by rw [ly]; exact hl.lt) hx))
  have lt : ∀ k ∈ l, k < (yieldsR rows bls w0 w1).length := by rw [ly]; exact hl.lt
  generalize yieldsR rows bls w0 w1 = Y at *
  have hz : (l.map fun k : Nat => PyData.int (k : Int)).length ≤ szL := by rw [List.length_map]; exact sz1000 (by omega)
  have er : ∀ r, rowD r = .tuple (r.map rD) := fun _ => rfl
  have c1 := fun ρ (hh) => lc_on (bind := bindT (.nm 14)) (cond := denC (C (n + 8)) .nil) (elt := den (C (n + 8)) (.prim .idx (.cons (.var 6) (.cons (.var 14) .nil)))) (own := [14]) (ρ := ρ) (f := fun k : Nat => PyData.int (k : Int)) (g := fun k : Nat => rD (Y.getD k 0)) (as := l) hh
  have c2 := c1 [some (.own xs), tu, tr, wo, qs, some (.d (lotD l)), some (.d (rowD Y)), ow, to, ro, sp, bl, some (.d (trialD (pickL l rows []) (pickL l sps 0) (pickB l bls))), some (.d (.tuple [rowD w0, rowD (w1.take (levK (pickB l bls)))])), none] (fun k hk => ⟨_, _, _, _, rfl, rfl, by rw [er Y]; simp_arith only [atI_map (0 : Rat) (lt k hk)]; rfl, rfl, rfl⟩)
  have em : (l.map fun k : Nat => rD (Y.getD k 0)) = (pickL l Y 0).map rD := by rw [pickL, List.map_map]; rfl
  rw [em] at c2
  have ep : PyData.tuple ((pickL l Y 0).map rD) = rowD (pickL l Y 0) := rfl
  unfold lotD at c2 ⊢
  simp_arith (decide := true) only [i47_3, h1, p.shaped (by decide), p.show_, p.len (by decide), if_pos hz, c2, ep, p.eqS, Bool.and_self, Bool.true_and]
theorem l__law_right_0 (T n : Nat) (hT : T < 600000000) (us : List D) (ρ : Eng.Env) (h : ∃ (N : Nat) (xs : List D) (tu tr wo qs lo du ow to ro sp bl fe le : Option Val), ρ = [some (.own xs), tu, tr, wo, qs, lo, du, ow, to, ro, sp, bl, fe, le, none] ∧ W N xs ∧ N + 1000 * us.length ≤ T) :
    ∃ o, forLoop (bindT (.nm 1)) (Eng.execs (C (n + 8)) b47_0) us ρ = some o ∧ ∃ (xs : List D) (tu tr wo qs lo du ow to ro sp bl fe le : Option Val), o = .nx [some (.own xs), tu, tr, wo, qs, lo, du, ow, to, ro, sp, bl, fe, le, none] := by
  refine for_inv (fun us ρ => ∃ (N : Nat) (xs : List D) (tu tr wo qs lo du ow to ro sp bl fe le : Option Val), ρ = [some (.own xs), tu, tr, wo, qs, lo, du, ow, to, ro, sp, bl, fe, le, none] ∧ W N xs ∧ N + 1000 * us.length ≤ T) ?_ ?_ us ρ h
  · rintro u us ρ ⟨N, xs, tu, tr, wo, qs, lo, du, ow, to, ro, sp, bl, fe, le, rfl, w, hN⟩
    rw [List.length_cons] at hN
    obtain ⟨few, rows, sps, bls, x1, h1, dt, w1_⟩ := e__law_trial (n + 3) N 10 xs w (by omega) (by decide) (by decide)
    have m1 := dt.many1
    have f5 := dt.few5
    obtain ⟨w0, w1, x2, h2, l0, l1, r0, r1, w2_⟩ := e__law_world (n + 3) (N + 500) few 10 x1 rows sps bls w1_ (by omega) dt (by decide)
    have hw : WK few bls w0 w1 := ⟨l0, l1, r0, r1⟩
    obtain ⟨q, x3, h3, lq, gq, w3_⟩ := e__law_asked (n + 3) (N + 500 + 30) few 10 x2 rows sps bls w2_ (by omega) dt (by decide)
    obtain ⟨l, x4, h4, hl, w4_⟩ := e__law_lot (n + 6) (N + 500 + 30 + 60) rows.length x3 w3_ (by omega) dt.many0 m1
    have h5 := e__law_yields (n + 4) few 10 rows sps bls w0 w1 dt (by decide) hw
    have dk := asked_dok lq f5 gq r0
    have sa := dot_sm lq f5 gq r0
    have h6 := e__law_dot (n + 5) _ _ q w0 dk
    have h7 := e_answer n few 10 rows sps bls w0 w1 q _ _ dt (by decide) hw lq (fun x hx => (gq x hx).sm lb2_pos (Nat.lt_of_lt_of_le (show LB * LB < 2 ^ 1000 by decide +kernel) (Nat.le_refl _)) (show 5 * MQ < 2 ^ 1000 by decide +kernel)) dk
    generalize dotR q w0 = a at *
    have ll := hl.len
    have hk : ∀ k ∈ l, k < sps.length := by rw [dt.spl]; exact hl.lt
    have fd := few_DT dt hl
    have fw := few_WK dt hl hw
    have h8 := e__law_levels (n + 7) _ (isTrial_trialD fd (by decide))
    rw [levD_trialD] at h8
    have lb := levN_bound fd
    have hlev : levN (pickB l bls) = (levK (pickB l bls) : Int) := by unfold levK; omega
    rw [hlev] at h8
    have lw : levK (pickB l bls) ≤ w1.length := by
      have := fw.l1
      rw [List.length_take] at this
      unfold levK at *
      omega
    have er : ∀ r, rowD r = .tuple (r.map rD) := fun _ => rfl
    have cw : PyData.tuple (cut (w1.map rD) none (some (levK (pickB l bls) : Int))) = rowD (w1.take (levK (pickB l bls))) := by
      rw [cut_take (by rw [List.length_map]; exact lw), ← List.map_take]; rfl
    have hz : (l.map fun k : Nat => PyData.int (k : Int)).length ≤ szL := by rw [List.length_map]; exact sz1000 (by omega)
    have i0 := i__law_right_0 n few x4 (some (.d u)) ow to ro sp bl fe le none rows sps bls w0 w1 (some (.d (rowD q))) (some (.d (lotD l))) dt hw
    have i1 := i__law_right_1 n x4 (some (.d u)) (some (.d (trialD rows sps bls))) (some (.d (.tuple [rowD w0, rowD w1]))) (some (.d (rowD q))) (some (.d (lotD l))) (some (.d (rowD (yieldsR rows bls w0 w1)))) ro sp bl fe le none a sa
    have i2 := i__law_right_2 n few x4 (some (.d u)) (some (.d (.tuple [rowD w0, rowD w1]))) (some (.d (rowD q))) (some (.d (rowD (yieldsR rows bls w0 w1)))) (some (.d (rD a))) (some (.own [rD a, rD a])) (some (.d (.tuple (rows.map rowD)))) (some (.d (.tuple (sps.map rD)))) (some (.d (blD bls))) le none rows sps bls l dt hl
    have i3 := i__law_right_3 n few x4 (some (.d u)) (some (.d (trialD rows sps bls))) (some (.d (.tuple [rowD w0, rowD w1]))) (some (.d (rowD q))) (some (.d (rD a))) (some (.own [rD a, rD a])) (some (.d (.tuple (rows.map rowD)))) (some (.d (.tuple (sps.map rD)))) (some (.d (blD bls))) none rows sps bls w0 w1 l dt hw hl
    generalize yieldsR rows bls w0 w1 = Y at *
    have h1 : (C (n + 8)).fn 40 [.own xs, .d (.int 10)] = some (.d (trialD rows sps bls), [.own x1, .d (.int 10)]) := h1
    have c1 := fun ρ (hh) => lc_on (bind := bindT (.nm 14)) (cond := denC (C (n + 8)) .nil) (elt := den (C (n + 8)) (.prim .idx (.cons (.var 9) (.cons (.var 14) .nil)))) (own := [14]) (ρ := ρ) (f := fun k : Nat => PyData.int (k : Int)) (g := fun k : Nat => rowD (rows.getD k [])) (as := l) hh
    have c1 := c1 [some (.own x4), some (.d u), some (.d (.tuple [.tuple (rows.map rowD), .tuple (sps.map rD), .tuple (bls.map PyData.int)])), some (.d (.tuple [rowD w0, .tuple (w1.map rD)])), some (.d (rowD q)), some (.d (.tuple (l.map fun k : Nat => PyData.int (k : Int)))), some (.d (rowD Y)), some (.d (rD a)), some (.own [rD a, rD a]), some (.d (.tuple (rows.map rowD))), some (.d (.tuple (sps.map rD))), some (.d (.tuple (bls.map PyData.int))), fe, le, none] (fun k hk => ⟨_, _, _, _, rfl, rfl, by simp_arith only [atI_map [] (hl.lt k hk)]; rfl, rfl, rfl⟩)
    have c2 := fun ρ (hh) => lc_on (bind := bindT (.nm 14)) (cond := denC (C (n + 8)) .nil) (elt := den (C (n + 8)) (.prim .idx (.cons (.var 10) (.cons (.var 14) .nil)))) (own := [14]) (ρ := ρ) (f := fun k : Nat => PyData.int (k : Int)) (g := fun k : Nat => rD (sps.getD k 0)) (as := l) hh
    have c2 := c2 [some (.own x4), some (.d u), some (.d (.tuple [.tuple (rows.map rowD), .tuple (sps.map rD), .tuple (bls.map PyData.int)])), some (.d (.tuple [rowD w0, .tuple (w1.map rD)])), some (.d (rowD q)), some (.d (.tuple (l.map fun k : Nat => PyData.int (k : Int)))), some (.d (rowD Y)), some (.d (rD a)), some (.own [rD a, rD a]), some (.d (.tuple (rows.map rowD))), some (.d (.tuple (sps.map rD))), some (.d (.tuple (bls.map PyData.int))), fe, le, none] (fun k hk2 => ⟨_, _, _, _, rfl, rfl, by simp_arith only [atI_map (0 : Rat) (hk k hk2)]; rfl, rfl, rfl⟩)
    have em1 : (l.map fun k : Nat => rowD (rows.getD k [])) = (pickL l rows []).map rowD := by rw [pickL, List.map_map]; rfl
    have em2 : (l.map fun k : Nat => rD (sps.getD k 0)) = (pickL l sps 0).map rD := by rw [pickL, List.map_map]; rfl
    rw [em1] at c1
    rw [em2] at c2
    obtain ⟨c3, e3⟩ : ∃ c3 : Unit, Eng.den (C (n + 8)) (.ite (.prim .ne (.cons (.var 11) (.cons (.tup .nil) .nil))) (.prim .tuple (.cons (.comp (.prim .idx (.cons (.var 11) (.cons (.var 14) .nil))) (.nm 14) (.val (.var 5)) .nil [14]) .nil)) (.tup .nil)) [some (.own x4), some (.d u), some (.d (.tuple [.tuple (rows.map rowD), .tuple (sps.map rD), .tuple (bls.map PyData.int)])), some (.d (.tuple [rowD w0, .tuple (w1.map rD)])), some (.d (rowD q)), some (.d (.tuple (l.map fun k : Nat => PyData.int (k : Int)))), some (.d (rowD Y)), some (.d (rD a)), some (.own [rD a, rD a]), some (.d (.tuple (rows.map rowD))), some (.d (.tuple (sps.map rD))), some (.d (.tuple (bls.map PyData.int))), some (.d (.tuple [.tuple ((pickL l rows []).map rowD), .tuple ((pickL l sps 0).map rD)])), le, none] = some (.d (.tuple ((pickB l bls).map PyData.int)), [some (.own x4), some (.d u), some (.d (.tuple [.tuple (rows.map rowD), .tuple (sps.map rD), .tuple (bls.map PyData.int)])), some (.d (.tuple [rowD w0, .tuple (w1.map rD)])), some (.d (rowD q)), some (.d (.tuple (l.map fun k : Nat => PyData.int (k : Int)))), some (.d (rowD Y)), some (.d (rD a)), some (.own [rD a, rD a]), some (.d (.tuple (rows.map rowD))), some (.d (.tuple (sps.map rD))), some (.d (.tuple (bls.map PyData.int))), some (.d (.tuple [.tuple ((pickL l rows []).map rowD), .tuple ((pickL l sps 0).map rD)])), le, none]) := by
      refine ⟨(), ?_⟩
      by_cases hb : bls = []
      · subst hb
        simp_arith (decide := true) only [List.map_nil, eqT0, List.isEmpty, pickB]
      · have hbl : bls.length = rows.length := by
          rcases dt.bl with e | e
          · exact absurd e hb
          · exact e.1
        have e0 : (bls.map PyData.int).isEmpty = false := by
          cases bls with
          | nil => exact absurd rfl hb
          | cons _ _ => rfl
        have em3 : (l.map fun k : Nat => PyData.int (bls.getD k 0)) = (pickB l bls).map PyData.int := by rw [pickB, if_neg hb, pickL, List.map_map]; rfl
        simp_arith only [eqT0, e0, if_pos hz]
        rw [lc_on (g := fun k : Nat => PyData.int (bls.getD k 0)), em3]
        · simp_arith only []
        · intro k hk
          exact ⟨_, _, _, _, rfl, rfl, by simp_arith only [atI_map (0 : Int) (show k < bls.length by rw [hbl]; exact hl.lt k hk)]; rfl, rfl, rfl⟩
    simp only [trialD, blD, lotD] at h1 h2 h3 h4 h5 h7 h8 i0 i1 i2 i3
    rw [er w1] at h2 h5 h7 i0 i1 i2 i3
    have s2 : [PyData.tuple ((pickL l rows []).map rowD), .tuple ((pickL l sps 0).map rD)].length + [PyData.tuple ((pickB l bls).map PyData.int)].length ≤ szL := sz1000 (by simp)
    refine ⟨[some (.own xs), some (.d u), tr, wo, qs, lo, du, ow, to, ro, sp, bl, fe, le, none], .nx [some (.own x4), some (.d u), some (.d (.tuple [.tuple (rows.map rowD), .tuple (sps.map rD), .tuple (bls.map PyData.int)])), some (.d (.tuple [rowD w0, .tuple (w1.map rD)])), some (.d (rowD q)), some (.d (.tuple (l.map fun k : Nat => PyData.int (k : Int)))), some (.d (rowD Y)), some (.d (rD a)), some (.own [rD a, rD a]), some (.d (.tuple (rows.map rowD))), some (.d (.tuple (sps.map rD))), some (.d (.tuple (bls.map PyData.int))), some (.d (.tuple [.tuple ((pickL l rows []).map rowD), .tuple ((pickL l sps 0).map rD), .tuple ((pickB l bls).map PyData.int)])), some (.d (.tuple [rowD w0, rowD (w1.take (levK (pickB l bls)))])), none], rfl, ?_, _, x4, _, _, _, _, _, _, _, _, _, _, _, _, _, rfl, w4_, by omega⟩
    have hz2 : l.length ≤ szL := sz1000 (by omega)
    unfold b47_0
    generalize (ME.ite (.prim .ne (.cons (.var 11) (.cons (.tup .nil) .nil))) (.prim .tuple (.cons (.comp (.prim .idx (.cons (.var 11) (.cons (.var 14) .nil))) (.nm 14) (.val (.var 5)) .nil [14]) .nil)) (.tup .nil)) = E3 at e3 ⊢
    simp_arith (decide := true) only [h1, h2, h3, a30, List.length_map, h4, h5, i0, at0, at1, h6, h7, i1, if_pos hz2, c1, c2, e3, s2, i2, h8, cw, i3]
  · rintro ρ ⟨N, xs, tu, tr, wo, qs, lo, du, ow, to, ro, sp, bl, fe, le, rfl, w, hN⟩
    exact ⟨xs, tu, tr, wo, qs, lo, du, ow, to, ro, sp, bl, fe, le, rfl⟩
theorem x_rngN4 (ρ : Eng.Env) : Eng.rngQ (.int 4) ρ = some (Eng.upTo 0 4, ρ) := x_rngN 4 ρ (by decide)
theorem e__law_right (n : Nat) (xs : List D) (w : W 0 xs) : ∃ xs' : List D, (C (n + 9)).fn 47 [.own xs] = some (.d (.bool true), [.own xs']) := by
  obtain ⟨o, h, x1, tu, tr, wo, qs, lo, du, ow, to, ro, sp, bl, fe, le, rfl⟩ := l__law_right_0 5000 n (by omega) (Eng.upTo 0 4) [some (.own xs), none, none, none, none, none, none, none, none, none, none, none, none, none, none] ⟨0, xs, _, _, _, _, _, _, _, _, _, _, _, _, _, rfl, w, by rw [upTo_len]; decide⟩
  refine ⟨x1, ?_⟩
  rw [show ∀ m xs, (C (m + 1)).fn 47 xs = runF (C m) f47 xs from fun _ _ => rfl, run_f _ _ _ ⟨rfl, rfl⟩]
  simp_arith (decide := true) only [f47, x_rngN4, h]

end LaK03
set_option Elab.async false
set_option linter.all false
set_option maxRecDepth 100000
set_option maxHeartbeats 1000000
namespace LaK03
open PySem PySem.Spec Eng L2
theorem answers_of (n : Nat) (hr : ∀ xs : List D, W 0 xs → ∃ xs' : List D, (C (n + 1)).fn 47 [.own xs] = some (.d (.bool true), [.own xs'])) (ns : List Int) : ∃ ws, (C (n + 2)).fn 48 [.d (.list (ns.map PyData.int))] = some (.d (.bool true), ws) ∧ ws.length = 1 := by
  refine ⟨[.d (.list (ns.map PyData.int))], ?_, rfl⟩
  obtain ⟨k, hk, hk4⟩ : ∃ k : Nat, (if (if (4 : Int) < ((ns.map PyData.int).length : Int) then 4 else ((ns.map PyData.int).length : Int)) > 2 then (if (4 : Int) < ((ns.map PyData.int).length : Int) then 4 else ((ns.map PyData.int).length : Int)) else 2) = (k : Int) ∧ k ≤ 4 := by
    refine ⟨_, (Int.toNat_of_nonneg ?_).symm, ?_⟩ <;> split <;> (try split) <;> omega
  rw [show ∀ m xs, (C (m + 1)).fn 48 xs = runF (C m) f48 xs from fun _ _ => rfl, run_f _ _ _ ⟨rfl, rfl⟩]
  have hz : (Eng.upTo 0 k).length ≤ szL := by rw [upTo_len]; exact sz1000 (by omega)
  simp_arith only [f48, hk, x_rngN k _ (show k ≤ 1000 by omega), if_pos hz]
  rw [lc_map (g := fun _ => PyData.bool true)]
  · simp_arith only [bools_map]
    simp
  · intro t ht
    obtain ⟨j, hj, rfl⟩ : ∃ j : Nat, j < k ∧ t = .int j := by
      simp only [Eng.upTo, List.mem_map, List.mem_range] at ht
      obtain ⟨j, hj, rfl⟩ := ht
      exact ⟨j, hj, by rw [Int.zero_add]⟩
    obtain ⟨xs, h1, w⟩ := e__law_well n ns j (by omega)
    obtain ⟨xs', h2⟩ := hr xs w
    exact ⟨_, _, _, _, rfl, rfl, by simp_arith only [h1, h2]; rfl, rfl, rfl⟩

end LaK03
set_option Elab.async false
set_option linter.all false
set_option maxRecDepth 100000
set_option maxHeartbeats 1000000
namespace LaK03
open PySem PySem.Spec Eng L2
def depth : Nat := 10
theorem answers (ns : List Int) (h : ns.length ≤ 63) : ∃ ws, (C depth).fn 48 [.d (.list (ns.map PyData.int))] = some (.d (.bool true), ws) ∧ ws.length = 1 :=
  answers_of 8 (fun xs w => e__law_right 0 xs w) ns

end LaK03
set_option maxHeartbeats 0
open PySem PySem.W PySem.Calls PyProof.Rows
theorem PySem.Challenge.cw_trialground_k03_whole_yields_answers_plo_holds : PySem.Challenge.rw_trialground_k03_whole_yields_answers_plo.Holds := by
  w_on; o_law
  refine HandSHeadRun.head_imp (r := LaK03.R) (q := view LaK03.R.prog [0, 65]) (H := LaK03.hk) (ob := LaK03.ob) (M := 4360) (loose := LaK03.nms) (d := HandSHeadRun.topDef LaK03.R.prog 65) (kwd := []) LaK03.ob_eq
    LaK03.run (by kernel_rfl) (by kernel_rfl) (by kernel_rfl) (by rfl) (by first | assumption | decide +kernel) (by decide +kernel) ⟨rfl, rfl, rfl, rfl, rfl, by decide +kernel⟩ ?hw ?hc
  case hw => w_witness2
  case hc =>
    refine Att.attach_call (n := 63) rfl (by kernel_rfl) fun w s0 s1 mg mb fa o pm cd doc a vs ns G Y ho hd hcd hmg hobj hints hlen hg => ?_
    obtain ⟨K, KX, c, e1, e2⟩ := Y
    have en : (HandSHeadRun.topDef LaK03.R.prog 65).name = ("law" : PySem.Str) := by kernel_rfl
    rw [en] at hmg
    have t := LaK03.tab_at KX G.T.g c e1 e2
    obtain ⟨f, fdata, q1, q2, q3, q4, q5⟩ := Eng.all_defs (P := PySem.Challenge.rw_trialground_k03_whole_yields_answers_plo.prog) (w := w) t LaK03.depth 48 "law" ["_law_script"] _ rfl
    have ef := hmg.symm.trans q1
    cases ef
    exact Eng.law_go (x := "_law_script") (k := LaK03.depth) KX G.T.g G.T.b G.T.builtins G.T.nolimit hg hobj hints (Nat.le_trans hlen (by decide)) ⟨rfl, by decide, by decide⟩ (fun base _ _ => q3 base) (fun us hl => q4 us hl) (LaK03.answers ns hlen)
