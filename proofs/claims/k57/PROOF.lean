import PyProof.Rows.All
import Wide.All
import OpenK.AllK
import Wide.FinOn
import HandS.ForMost
import HandS.ForExc
import HandS.Walk
import HandS.Flow
import HandS.Style
import HandS.Defaults
import HandS.MakeKwOnly
import HandS.MakeKw
import HandS.More
import HandS.Wide
import HandS.Codes
import HandS.TryMany
import HandS.ExcInit
import HandS.IsInst
import HandS.Conv
import HandS.Lambda
import HandS.HeadWalk
import HandS.HeadHook4
import KE.KMinKey
import HandS.SortKw
import KE.KSortTupG
import PySem.Challenge.RW_promptworks_k57_whole_line_however_cut
import HandS.Small
import HandS.SortInts
import KE.KStateDown
import HandS.Base
import HandS.Call
import HandS.Ends
import HandS.Words
import HandS.Head0
import HandS.Head1
import HandS.Head2
import HandS.HeadEnd
import HandS.HeadHook1
import HandS.HeadHook2
import HandS.HeadHook3
import HandS.NestedK
set_option Elab.async false
set_option linter.all false
set_option maxRecDepth 100000
set_option maxHeartbeats 4000000
namespace Pw
open PySem L2

/-! ### heaps that go on -/
/-- from H to H' all stands but at S; tuples, code and lambdas stand for ever; tables may grow where g is true -/
structure Kg (g : Bool) (S : List Addr) (H H' : Hp) : Prop where
  at_ : ∀ b o, H b = some o → (∀ ps, o ≠ .tbl ps) → b ∉ S → H' b = some o
  tup : ∀ b xs, H b = some (.tup xs) → H' b = some (.tup xs)
  tbl : ∀ b ps, H b = some (.tbl ps) → ∃ more, H' b = some (.tbl (ps ++ more)) ∧ (g = false → more = #[])
  ext : ∀ b f, H b = some (.ext f) → H' b = some (.ext f)
abbrev Kp (S : List Addr) (H H' : Hp) : Prop := Kg false S H H'
abbrev Kw (S : List Addr) (H H' : Hp) : Prop := Kg true S H H'
section
variable {g : Bool} {S T : List Addr} {H H' H1 H2 : Hp}
theorem Kg.refl (S : List Addr) (H : Hp) : Kg g S H H := ⟨fun _ _ h _ _ => h, fun _ _ h => h, fun _ _ h => ⟨#[], by rw [h]; simp, fun _ => rfl⟩, fun _ _ h => h⟩
theorem Kg.w (a : Kg g S H H') : Kw S H H' := ⟨a.at_, a.tup, fun b ps h => by
  obtain ⟨m, e, _⟩ := a.tbl b ps h
  exact ⟨m, e, fun z => nomatch z⟩, a.ext⟩
theorem Kg.tblT (a : Kg g S H H1) (b : Kg g S H1 H2) : ∀ c ps, H c = some (.tbl ps) → ∃ more, H2 c = some (.tbl (ps ++ more)) ∧ (g = false → more = #[]) := fun c ps h => by
  obtain ⟨m1, e1, z1⟩ := a.tbl c ps h
  obtain ⟨m2, e2, z2⟩ := b.tbl c _ e1
  exact ⟨m1 ++ m2, by rw [e2, Array.append_assoc], fun q => by rw [z1 q, z2 q]; rfl⟩
theorem Kg.trans (a : Kg g S H H1) (b : Kg g S H1 H2) : Kg g S H H2 :=
  ⟨fun c o h t n => b.at_ c o (a.at_ c o h t n) t n, fun c o h => b.tup c o (a.tup c o h), a.tblT b, fun c o h => b.ext c o (a.ext c o h)⟩
theorem Kg.wide (a : Kg g S H H') (h : ∀ x ∈ S, x ∈ T) : Kg g T H H' :=
  ⟨fun c o e t n => a.at_ c o e t fun m => n (h c m), a.tup, a.tbl, a.ext⟩
theorem Kg.any (a : Kg g [] H H') : Kg g T H H' := a.wide fun _ h => nomatch h
theorem Kp.refl (S : List Addr) (H : Hp) : Kp S H H := Kg.refl S H
theorem Kp.of_same (a : Same H H') : Kp [] H H' := ⟨fun b o h _ _ => a b o h, fun b xs h => a b _ h, fun b ps h => ⟨#[], by rw [a b _ h]; simp, fun _ => rfl⟩, fun b f h => a b _ h⟩
theorem Kp.new {p : Addr} {o : HO} (h : H p = none) : Kp [] H (upd H p o) :=
  Kp.of_same fun b u e => by rw [upd_ne (ne_of_none e h)]; exact e
theorem Kp.put {p : Addr} {o u : HO} (h : H p = some u) (hn : ∀ xs, u ≠ .tup xs) (ht : ∀ xs, u ≠ .tbl xs) (hx : ∀ f, u ≠ .ext f) : Kp [p] H (upd H p o) :=
  ⟨fun b u e _ n => by rw [upd_ne (fun z => n (by rw [z]; simp))]; exact e,
   fun b xs e => by
    have nb : b ≠ p := fun z => by rw [z, h] at e; exact hn xs (Option.some.inj e)
    rw [upd_ne nb]; exact e,
   fun b xs e => by
    have nb : b ≠ p := fun z => by rw [z, h] at e; exact ht xs (Option.some.inj e)
    exact ⟨#[], by rw [upd_ne nb, e]; simp, fun _ => rfl⟩,
   fun b f e => by
    have nb : b ≠ p := fun z => by rw [z, h] at e; exact hx f (Option.some.inj e)
    rw [upd_ne nb]; exact e⟩
/-- what H does not know may be written -/
theorem Kg.mut {p : Addr} (a : Kg g S H H1) (b : Kg g [p] H1 H2) (h : H p = none) : Kg g S H H2 :=
  ⟨fun c o e t n => b.at_ c o (a.at_ c o e t n) t (by simpa using ne_of_none e h), fun c xs e => b.tup c xs (a.tup c xs e), fun c ps h => by
    obtain ⟨m1, e1, z1⟩ := a.tbl c ps h
    obtain ⟨m2, e2, z2⟩ := b.tbl c _ e1
    exact ⟨m1 ++ m2, by rw [e2, Array.append_assoc], fun q => by rw [z1 q, z2 q]; rfl⟩, fun c o h => b.ext c o (a.ext c o h)⟩
theorem Kg.free (a : Kg g S H H') {l : Addr} (hn : l ∉ S) (h : H' l = none) : H l = none := by
  cases q : H l with
  | none => rfl
  | some o =>
    by_cases t : ∃ ps, o = .tbl ps
    · obtain ⟨ps, rfl⟩ := t
      obtain ⟨m, e, _⟩ := a.tbl l ps q
      rw [e] at h
      cases h
    · rw [a.at_ l o q (fun ps z => t ⟨ps, z⟩) hn] at h
      cases h
theorem Kg.free0 (a : Kg g [] H H') {l : Addr} (h : H' l = none) : H l = none := a.free (by simp) h
theorem Kg.lst (k : Kg g S H H') {a : Addr} {xs : List V} (h : H a = some (.lst xs)) (n : a ∉ S) : H' a = some (.lst xs) := k.at_ _ _ h (fun _ z => nomatch z) n
theorem Kg.ins (k : Kg g S H H') {a C dx : Addr} {fs : List (Str × V)} (h : H a = some (.ins C dx fs)) (n : a ∉ S) : H' a = some (.ins C dx fs) := k.at_ _ _ h (fun _ z => nomatch z) n
theorem Kg.dk (k : Kg g S H H') {a : Addr} {kvs : List (Key × V)} (h : H a = some (.dK kvs)) (n : a ∉ S) : H' a = some (.dK kvs) := k.at_ _ _ h (fun _ z => nomatch z) n
/-- code tables stand -/
theorem Kg.tabs (k : Kp S H H') {Tb : List (Addr × Str)} (t : LamX.Tabs Tb H) : LamX.Tabs Tb H' := fun p hp => by
  obtain ⟨ps, h1, h2, h3⟩ := t p hp
  obtain ⟨m, e, z⟩ := k.tbl _ _ h1
  rw [z rfl] at e
  refine ⟨ps, by simpa using e, h2, fun pos cv hc => ?_⟩
  obtain ⟨c, e1, e2⟩ := h3 pos cv hc
  exact ⟨c, e1, k.ext _ _ e2⟩
end
theorem Kg.seq {g : Bool} {K : PySem.W.Frag} {S : List Addr} {H H' : Hp} {a : Addr} {xs : List V} (k : Kg g S H H') (h : SqL K H a xs) (n : a ∉ S) : SqL K H' a xs := by
  rcases h with (h | ⟨o, h⟩) | h
  · exact .inl (.inl (k.lst h n))
  · exact .inl (.inr ⟨o, k.at_ _ _ h (fun _ z => nomatch z) n⟩)
  · exact .inr h

/-! ### data made of tuples -/
mutual
inductive DT (H : Hp) : V → PyData → Prop
  | non : DT H .non .none
  | bl (b : Bool) : DT H (.bl b) (.bool b)
  | int (i : Int) : DT H (.int i) (.int i)
  | str (x : Str) : DT H (.str x) (.str x)
  | tup {a : Addr} {xs : List V} {ds : List PyData} : H a = some (.tup xs) → DTs H xs ds → DT H (.ref a) (.tuple ds)
inductive DTs (H : Hp) : List V → List PyData → Prop
  | nil : DTs H [] []
  | cons {v : V} {vs : List V} {d : PyData} {ds : List PyData} : DT H v d → DTs H vs ds → DTs H (v :: vs) (d :: ds)
end
mutual
theorem DT.kp {g : Bool} {S : List Addr} {H H' : Hp} (k : Kg g S H H') : ∀ {v : V} {d : PyData}, DT H v d → DT H' v d
  | _, _, .non => .non
  | _, _, .bl b => .bl b
  | _, _, .int i => .int i
  | _, _, .str x => .str x
  | _, _, .tup h hs => .tup (k.tup _ _ h) (DTs.kp k hs)
theorem DTs.kp {g : Bool} {S : List Addr} {H H' : Hp} (k : Kg g S H H') : ∀ {vs : List V} {ds : List PyData}, DTs H vs ds → DTs H' vs ds
  | _, _, .nil => .nil
  | _, _, .cons h hs => .cons (DT.kp k h) (DTs.kp k hs)
end
mutual
theorem DT.dp {K : PySem.W.Frag} {H : Hp} : ∀ {v : V} {d : PyData}, DT H v d → Dp K H v d
  | _, _, .non => .non
  | _, _, .bl b => .bl b
  | _, _, .int i => .int i
  | _, _, .str x => .str x
  | _, _, .tup h hs => .tup (SqT.of h) (DTs.dp hs)
theorem DTs.dp {K : PySem.W.Frag} {H : Hp} : ∀ {vs : List V} {ds : List PyData}, DTs H vs ds → DpAll K H vs ds
  | _, _, .nil => .nil
  | _, _, .cons h hs => .cons (DT.dp h) (DTs.dp hs)
end
theorem DTs.app {H : Hp} : ∀ {vs ws : List V} {ds es : List PyData}, DTs H vs ds → DTs H ws es → DTs H (vs ++ ws) (ds ++ es)
  | _, _, _, _, .nil, h => h
  | _, _, _, _, .cons a t, h => .cons a (DTs.app t h)
theorem DTs.one {H : Hp} {v : V} {d : PyData} (h : DT H v d) : DTs H [v] [d] := .cons h .nil
theorem DTs.len {H : Hp} : ∀ {vs : List V} {ds : List PyData}, DTs H vs ds → vs.length = ds.length
  | _, _, .nil => rfl
  | _, _, .cons _ t => congrArg Nat.succ (DTs.len t)
theorem DTs.get {H : Hp} : ∀ {vs : List V} {ds : List PyData} {i : Nat} {v : V}, DTs H vs ds → vs[i]? = some v → ∃ d, ds[i]? = some d ∧ DT H v d
  | _, _, _, _, .nil, e => by simp at e
  | _, _, 0, _, .cons a _, e => by simp at e; subst e; exact ⟨_, rfl, a⟩
  | _, _, i + 1, v, .cons _ t, e => by
    obtain ⟨d, h1, h2⟩ := DTs.get (i := i) (v := v) t (by simpa using e)
    exact ⟨d, by simpa using h1, h2⟩
theorem DTs.ints {H : Hp} : ∀ ns : List Int, DTs H (ns.map V.int) (ns.map PyData.int)
  | [] => .nil
  | _ :: r => .cons (.int _) (DTs.ints r)
/-- a tuple, opened -/
theorem DT.tup_inv {H : Hp} {v : V} {ds : List PyData} (h : DT H v (.tuple ds)) : ∃ a xs, v = .ref a ∧ H a = some (.tup xs) ∧ DTs H xs ds := by
  cases h with
  | tup h hs => exact ⟨_, _, rfl, h, hs⟩
theorem DT.int_inv {H : Hp} {v : V} {i : Int} (h : DT H v (.int i)) : v = .int i := by cases h; rfl
theorem DT.str_inv {H : Hp} {v : V} {i : Str} (h : DT H v (.str i)) : v = .str i := by cases h; rfl
theorem DT.non_inv {H : Hp} {v : V} (h : DT H v .none) : v = .non := by cases h; rfl
theorem DTs.cons_inv {H : Hp} {vs : List V} {d : PyData} {ds : List PyData} (h : DTs H vs (d :: ds)) : ∃ v ws, vs = v :: ws ∧ DT H v d ∧ DTs H ws ds := by
  cases h with
  | cons a t => exact ⟨_, _, rfl, a, t⟩
theorem DTs.nil_inv {H : Hp} {vs : List V} (h : DTs H vs []) : vs = [] := by cases h; rfl
/-- a list of such data at l -/
structure LD (H : Hp) (l : Addr) (ds : List PyData) : Prop where
  ex : ∃ vs, H l = some (.lst vs) ∧ DTs H vs ds
theorem LD.kp {g : Bool} {S : List Addr} {H H' : Hp} {l : Addr} {ds : List PyData} (h : LD H l ds) (k : Kg g S H H') (n : l ∉ S) : LD H' l ds := by
  obtain ⟨vs, h1, h2⟩ := h.ex
  exact ⟨vs, k.lst h1 n, h2.kp k⟩
theorem LD.dp {K : PySem.W.Frag} {H : Hp} {l : Addr} {ds : List PyData} (h : LD H l ds) : Dp K H (.ref l) (.list ds) := by
  obtain ⟨vs, h1, h2⟩ := h.ex
  exact .lst (SqL.of h1) h2.dp

/-! ### what is laid or written gives a new heap -/
theorem lst_nt {xs : List V} : ∀ ys, (HO.lst xs) ≠ .tup ys := fun _ h => nomatch h
theorem dk_nt {xs : List (Key × V)} : ∀ ys, (HO.dK xs) ≠ .tup ys := fun _ h => nomatch h
theorem ins_nt {C d : Addr} {xs : List (Str × V)} : ∀ ys, (HO.ins C d xs) ≠ .tup ys := fun _ h => nomatch h
/-- after «generalize e : upd _ p _ = H'»: what is known of H' -/
theorem newF {H H' : Hp} {p : Addr} {o : HO} (e : upd H p o = H') (h : H p = none) : H' p = some o ∧ Kp [] H H' := by
  subst e
  exact ⟨upd_same, Kp.new h⟩
theorem putL {H H' : Hp} {p : Addr} {o : HO} {xs : List V} (e : upd H p o = H') (h : H p = some (.lst xs)) : H' p = some o ∧ Kp [p] H H' := by
  subst e
  exact ⟨upd_same, Kp.put h (fun _ z => nomatch z) (fun _ z => nomatch z) fun _ z => nomatch z⟩
theorem putI {H H' : Hp} {p C dx : Addr} {o : HO} {fs : List (Str × V)} (e : upd H p o = H') (h : H p = some (.ins C dx fs)) : H' p = some o ∧ Kp [p] H H' := by
  subst e
  exact ⟨upd_same, Kp.put h (fun _ z => nomatch z) (fun _ z => nomatch z) fun _ z => nomatch z⟩
theorem putD {H H' : Hp} {p : Addr} {o : HO} {kvs : List (Key × V)} (e : upd H p o = H') (h : H p = some (.dK kvs)) : H' p = some o ∧ Kp [p] H H' := by
  subst e
  exact ⟨upd_same, Kp.put h (fun _ z => nomatch z) (fun _ z => nomatch z) fun _ z => nomatch z⟩
theorem n1 {a b : Addr} (h : a ≠ b) : a ∉ [b] := by simpa using h
theorem n0 {a : Addr} : a ∉ ([] : List Addr) := by simp
end Pw
namespace Pw
open PySem L2
theorem dp_ints {K : PySem.W.Frag} {H : Hp} : ∀ ns : List Int, DpAll K H (ns.map V.int) (ns.map PyData.int)
  | [] => .nil
  | _ :: r => .cons (.int _) (dp_ints r)
end Pw
namespace Pw
open PySem L2
/-! ### data that == takes -/
def Okd (k : Nat) (d : PyData) : Prop := d.canLay0 = true ∧ d.depth ≤ k
theorem okd_all {k : Nat} : ∀ {ds : List PyData}, (∀ d ∈ ds, Okd k d) → PyData.canLayAll0 ds = true ∧ PyData.depthAll ds ≤ k
  | [], _ => ⟨rfl, Nat.zero_le _⟩
  | d :: ds, h => by
    obtain ⟨h1, h2⟩ := h d (List.mem_cons_self ..)
    obtain ⟨h3, h4⟩ := okd_all fun d hd => h d (List.mem_cons_of_mem _ hd)
    refine ⟨?_, ?_⟩
    · unfold PyData.canLayAll0
      rw [h1, h3]
      rfl
    · unfold PyData.depthAll
      omega
theorem Okd.list {k : Nat} {ds : List PyData} (h : ∀ d ∈ ds, Okd k d) : Okd (k + 1) (.list ds) := by
  obtain ⟨h1, h2⟩ := okd_all h
  exact ⟨h1, Nat.succ_le_succ h2⟩
theorem Okd.tuple {k : Nat} {ds : List PyData} (h : ∀ d ∈ ds, Okd k d) : Okd (k + 1) (.tuple ds) := by
  obtain ⟨h1, h2⟩ := okd_all h
  exact ⟨h1, Nat.succ_le_succ h2⟩
theorem Okd.int {k : Nat} (i : Int) : Okd k (.int i) := ⟨rfl, Nat.zero_le _⟩
theorem Okd.bool {k : Nat} (i : Bool) : Okd k (.bool i) := ⟨rfl, Nat.zero_le _⟩
theorem Okd.none {k : Nat} : Okd k .none := ⟨rfl, Nat.zero_le _⟩
theorem Okd.str {k : Nat} {x : Str} (h : PySem.PyData.strOk x = true) : Okd k (.str x) := ⟨h, Nat.zero_le _⟩
theorem Okd.shaped {k : Nat} {d : PyData} (h : Okd k d) (hk : k ≤ 64) : SeqAt.shaped d = true := Bool.and_eq_true_iff.mpr ⟨h.1, decide_eq_true (Nat.le_trans h.2 hk)⟩
theorem okd_ints {k : Nat} (ns : List Int) : ∀ d ∈ ns.map PyData.int, Okd k d := fun d hd => by
  obtain ⟨i, _, rfl⟩ := List.mem_map.mp hd
  exact .int i
theorem okd_nil {k : Nat} : ∀ d ∈ ([] : List PyData), Okd k d := fun _ h => nomatch h
theorem okd_cons {k : Nat} {d : PyData} {ds : List PyData} (h : Okd k d) (t : ∀ e ∈ ds, Okd k e) : ∀ e ∈ d :: ds, Okd k e := fun e he => by
  rcases List.mem_cons.mp he with rfl | he
  · exact h
  · exact t e he
mutual
theorem eqv_refl : ∀ d : PyData, d.canLay0 = true → PyData.eqv d d = true
  | .none, _ => rfl
  | .bool b, _ => by cases b <;> rfl
  | .int i, _ => beq_self_eq_true i
  | .str x, _ => beq_self_eq_true x
  | .list xs, h => eqvAll_refl xs h
  | .tuple xs, h => eqvAll_refl xs h
  | .dict _, h => by cases h
theorem eqvAll_refl : ∀ ds : List PyData, PyData.canLayAll0 ds = true → PyData.eqvAll ds ds = true
  | [], _ => rfl
  | d :: ds, h => by
    obtain ⟨h1, h2⟩ := Bool.and_eq_true_iff.mp (show (d.canLay0 && PyData.canLayAll0 ds) = true from h)
    show (PyData.eqv d d && PyData.eqvAll ds ds) = true
    rw [eqv_refl d h1, eqvAll_refl ds h2]
    rfl
end
end Pw
namespace Pw
open PySem L2
theorem tyL {K : PySem.W.Frag} {H : Hp} {p : Addr} {xs : List V} (h : H p = some (.lst xs)) : tyV K "list" (.ref p) H := .inl ⟨rfl, xs, SqL.of h⟩
end Pw
namespace Pw
open PySem L2
/-! ### lists taken apart -/
def lenAt (H : Hp) (a : Addr) : Nat := match H a with
  | some (.lst xs) => xs.length
  | _ => 0
theorem lenAt_of {H : Hp} {a : Addr} {xs : List V} (h : H a = some (.lst xs)) : lenAt H a = xs.length := by
  unfold lenAt
  rw [h]
theorem erase_perm {α : Type} : ∀ {l : List α} {k : Nat} {a : α}, l[k]? = some a → (a :: l.eraseIdx k).Perm l
  | [], _, _, h => by simp at h
  | x :: r, 0, a, h => by
    have e : x = a := by simpa using h
    subst e
    exact List.Perm.refl _
  | x :: r, k + 1, a, h => by
    have z := erase_perm (l := r) (k := k) (a := a) (by simpa using h)
    exact (List.Perm.swap x a _).trans (z.cons x)
theorem erase_map {α β : Type} {f : α → β} : ∀ {l : List α} {k : Nat}, (l.map f).eraseIdx k = (l.eraseIdx k).map f
  | [], _ => rfl
  | _ :: _, 0 => rfl
  | x :: r, k + 1 => by
    show f x :: (r.map f).eraseIdx k = f x :: (r.eraseIdx k).map f
    rw [erase_map]
theorem DTs.erase {H : Hp} : ∀ {vs : List V} {ds : List PyData} (k : Nat), DTs H vs ds → DTs H (vs.eraseIdx k) (ds.eraseIdx k)
  | _, _, _, .nil => .nil
  | _, _, 0, .cons _ t => t
  | _, _, k + 1, .cons a t => .cons a (DTs.erase k t)
theorem seqIx {z : Int} {n : Nat} (h0 : 0 ≤ z) (h : z < (n : Int)) : seqIndex? z n = some z.toNat := by
  unfold seqIndex?
  have e : (if z < 0 then z + (n : Int) else z) = z := by rw [if_neg (by omega)]
  simp only [e]
  rw [if_pos (by simp; omega)]
theorem cut_tail (x : V) (r : List V) : cutV (x :: r) (some 1) none = r := by
  unfold cutV
  rw [show (1 : Int) = ((1 : Nat) : Int) from rfl, HT.sIx_nat, HT.sIx_none]
  show List.take ((x :: r).length - min 1 (x :: r).length) (List.drop (min 1 (x :: r).length) (x :: r)) = r
  rw [Nat.min_eq_left (by show 1 ≤ r.length + 1; omega)]
  show List.take (r.length + 1 - 1) r = r
  exact List.take_of_length_le (by omega)
theorem cut_tail_in (x : V) (r : List V) : ¬ (HT.sIx (x :: r).length 0 (some 1) = 0 ∧ HT.sIx (x :: r).length (x :: r).length none = (x :: r).length) := by
  rintro ⟨h, _⟩
  rw [show (1 : Int) = ((1 : Nat) : Int) from rfl, HT.sIx_nat] at h
  rw [Nat.min_eq_left (by show 1 ≤ r.length + 1; omega)] at h
  cases h
/-- xs != [], in the head of a loop -/
theorem ne_nil_step {K : PySem.W.Frag} {i : Nat} {σ : L2.St} {H : Hp} {L : Addr} {ds : List PyData} {Q : Bool → Hp → Prop} (hσ : σ[i]? = some (some (.ref L))) (h : LD H L ds) (hok : ∀ d ∈ ds, Okd 62 d)
    (k0 : ds = [] → ∀ H1, Kp [] H H1 → Q false H1) (k1 : ds ≠ [] → ∀ H1, Kp [] H H1 → Q true H1) : tTest (tOp (rNeD K) (tVar i) (tLst tNil)) σ H Q := by
  refine ⟨_, hσ, by decide, fun p hp => ?_⟩
  generalize e : upd _ p _ = H1
  obtain ⟨e1, k⟩ := newF e hp
  refine ⟨.list ds, .list [], (h.kp k n0).dp, .lst (SqL.of e1) .nil, (Okd.list hok).shaped (by decide), (Okd.list okd_nil).shaped (k := 1) (by decide), _, rfl, ?_⟩
  cases ds with
  | nil => exact k0 rfl H1 k
  | cons d ds => exact k1 (fun z => nomatch z) H1 k
theorem ne_nil_mono {K : PySem.W.Frag} {i : Nat} {σ : L2.St} {H : Hp} {Q Q' : Bool → Hp → Prop} (m : ∀ b H1, Q b H1 → Q' b H1) (q : tTest (tOp (rNeD K) (tVar i) (tLst tNil)) σ H Q) : tTest (tOp (rNeD K) (tVar i) (tLst tNil)) σ H Q' := by
  obtain ⟨a, e1, e2, q⟩ := q
  refine ⟨a, e1, e2, fun p hp => ?_⟩
  obtain ⟨d, e, h1, h2, h3, h4, kk, hk, q⟩ := q p hp
  exact ⟨d, e, h1, h2, h3, h4, kk, hk, m _ _ q⟩
end Pw
namespace Pw
open PySem L2
/-- an expression that is never reached -/
theorem pe_never {X : Cx} {e : Expr} : PE X e (fun _ _ _ => False) := ⟨fun _ _ _ _ _ _ h => h.elim⟩
theorem pi_never {X : Cx} {tg e : Expr} : PI X tg e (fun _ _ _ => False) := ⟨fun _ _ _ _ _ _ h => h.elim⟩
theorem szb {n : Nat} (h : Nat.ble n 100 = true) : n ≤ sizeLine := Nat.le_trans (Nat.le_of_ble_eq_true h) (by decide)
end Pw
namespace Pw
open PySem PySem.Spec PyProof.Rows L2
/-! ### rules whose reading names K itself (within a comprehension) -/
section
variable {X : Cx} {e : Expr} {f : Str} {pos : Pos} {ta : TE}
theorem pe_fldK (K : PySem.W.Frag) (hK : X.K = K) (he : PE X e ta) (hb : attributeBase e f X.env (eval e X.env) = eval e X.env) : PE X (.Attribute e f pos) (tFld K ta f) := by
  subst hK
  exact pe_fld he hb
theorem pg_tupK (K : PySem.W.Frag) (hK : X.K = K) {es : List Expr} {k : Nat} {t : TGs} {n : Nat} (hc : X.calm = true) (h : PGs X es t)
    (hn : (assignEach es X.env).length = n := by rfl) (hst : (assignEach es X.env).findIdx? (·.1) = none := by rfl) : PG X (.Tuple es k pos) (gTup K n t) := by
  subst hK
  exact pg_tup hc h hn hst
theorem ix_listK (K : PySem.W.Frag) (hK : X.K = K) : IxR X (rIxL K) := by
  subst hK
  exact ix_list
theorem ix_tupK (K : PySem.W.Frag) (hK : X.K = K) : IxR X (rIxT K) := by
  subst hK
  exact ix_tup
theorem ix_seqK (K : PySem.W.Frag) (hK : X.K = K) : IxR X (rIx K) := by
  subst hK
  exact ix_seq
end
end Pw
set_option Elab.async false
set_option linter.all false
set_option maxRecDepth 100000
set_option maxHeartbeats 4000000
namespace Pw
open PySem PySem.Spec PyProof.Rows L2 LamX

/-! ### a lambda that captures nothing, as a value -/
/-- at f: a lambda of the name q, its code object at c -/
def LamO (q : Str) (params : Arguments) (body : Expr) (scope : Scope) (f c : Addr) : HO :=
  .ext fun h => ∃ pm ctv, h.get? f = some (PySem.W.kla_obj "<lambda>" q params body scope [] pm c ctv)
theorem lamO_nt {q : Str} {params : Arguments} {body : Expr} {scope : Scope} {f c : Addr} : ∀ ys, LamO q params body scope f c ≠ .tup ys := fun _ h => by
  unfold LamO at h
  cases h
theorem clo_nil {cells : List (Str × Addr)} : ∀ {names : List (Str × NameKind)}, (∀ y ∈ names, y.2 ≠ .free) → cloFrom cells names [] = [] := fun {names} h => by
  cases e : cloFrom cells names [] with
  | nil => rfl
  | cons p r =>
    have hm : p ∈ cloFrom cells names [] := by rw [e]; exact List.mem_cons_self
    obtain ⟨x, c⟩ := p
    rcases cloFrom_mem hm with z | ⟨h1, _⟩
    · cases z
    · exact absurd rfl (h _ h1)

section
variable {X : Cx} {pins : List (Addr × Obj)} {σ : L2.St} {H : Hp} {s : Shared}
/-- what the making of a lambda asks, what it leaves: T the tables -/
def tLamV (T : List (Addr × Str)) (q : Str) (params : Arguments) (body : Expr) (scope : Scope) : TE := fun _ H Q =>
  Tabs T H ∧ ∀ f c H1, H f = none → Kw [] H H1 → Tabs T H1 → H1 f = some (LamO q params body scope f c) → H1 c = some (CodeO c q) → Q (.ref f) H1
theorem pe_lamV {T : List (Addr × Str)} {c P : Addr} {q : Str} {params : Arguments} {body : Expr} {scope : Scope} {pos : Pos} (TB : TabB X.base X.mg c P) (hcode : X.env.code = .ref c) (hq : X.env.qual ++ "<lambda>" = q)
    (hm : (P, q) ∈ T) (hu : ∀ p ∈ T, p.1 = P → p.2 = q) (hdef : defaultsOf params X.env = ([], [])) (hfree : ∀ y ∈ scope.names, y.2 ≠ .free) :
    PE X (.Lambda params body scope pos) (tLamV T q params body scope) := by
  subst hq
  refine ⟨fun pins s σ H Q I ⟨good, want⟩ => PySem.W.kla_eval hdef ?_⟩
  obtain ⟨ps, atP, three, named⟩ := good _ hm
  have old : ∀ b u, X.base.get? b = some u → s.heap.get? b = some u := I.bk
  have hP' : s.heap.get? P = some { cls := .none, data := .fields ps } := I.hok P _ atP
  have clos : closureFor scope X.env = pure [] := by
    have e := closure_ok (env := X.env) (scope := scope) fun y hy e => absurd e (hfree y hy)
    rwa [clo_nil hfree] at e
  have last : ∀ (h' : Heap) (t1 t2 : Nat) (pm ctv : Value) (c' : Addr) (H1 : Hp), Inv X pins σ H1 { s with heap := h', toks := t1 } → Kw [] H H1 → Tabs T H1 → H1 c' = some (CodeO c' (X.env.qual ++ "<lambda>")) → s.heap.objs.size ≤ h'.objs.size →
      EP X pins σ Q (.ref h'.objs.size) { s with heap := h'.push (PySem.W.kla_obj "<lambda>" (X.env.qual ++ "<lambda>") params body scope [] pm c' ctv), toks := t2 } := by
    intro h' t1 t2 pm ctv c' H1 I1 eN T1 hco hsz
    have new : H1 h'.objs.size = none := I1.hok.fresh (Nat.le_refl _)
    have self := Heap.get?_push_size h' (o := PySem.W.kla_obj "<lambda>" (X.env.qual ++ "<lambda>") params body scope [] pm c' ctv) rfl
    have J : Inv X pins σ (upd H1 h'.objs.size (LamO (X.env.qual ++ "<lambda>") params body scope h'.objs.size c')) { s with heap := h'.push (PySem.W.kla_obj "<lambda>" (X.env.qual ++ "<lambda>") params body scope [] pm c' ctv), toks := t2 } :=
      I1.laid (t' := t2) (fun b u e => Heap.get?_push_of_some _ e) (Nat.le_refl _) ⟨⟨pm, ctv, self⟩, ⟨_, self⟩, fun g1 g2 ⟨pm', ctv', e⟩ st => ⟨pm', ctv', st _ e⟩⟩
    have ext : ∀ b u, H1 b = some u → upd H1 h'.objs.size (LamO (X.env.qual ++ "<lambda>") params body scope h'.objs.size c') b = some u := fun b u e => by
      rw [upd_ne (ne_of_none e new)]
      exact e
    exact ⟨.ref h'.objs.size, _, J, rfl, want _ c' _ (I.hok.fresh hsz) (eN.trans (Kp.new new).w) (T1.ext ext) upd_same (ext _ _ hco)⟩
  cases hc : codeAmong pos ps.toList with
  | some cv =>
    obtain ⟨c', rfl, hco⟩ := named pos cv hc
    refine PySem.W.kla_makeFunctionHit clos I.ok.glob (I.mod.glob.keeps old) hcode (TB.code.keeps old) hP' three hc (TB.bm.keeps old) fun ctv h' tk keep hsz => ?_
    exact last h' s.toks tk _ ctv c' H (I.kept keep) (Kg.refl [] H) good hco hsz
  | none =>
    refine PySem.W.kla_makeFunction clos I.ok.glob (I.mod.glob.keeps old) hcode (TB.code.keeps old) hP' three hc TB.gP (TB.bm.keeps old) fun c' ctv h' tk keep hge hlt hrec htb => ?_
    obtain ⟨c2, oc, vs, t, e2, hoc, hd, hv⟩ := hrec
    cases e2
    have nC : H c' = none := I.hok.fresh hge
    have nPc : P ≠ c' := ne_of_none atP nC
    have I1 := inv_table (t' := tk) (q := X.env.qual ++ "<lambda>") (more := #[rawInt pos.line, rawInt pos.col, .ref c']) I atP (fun b o hb e => keep b o hb e) htb hge ⟨oc, vs, t, hoc, hd, hv⟩
    have eL : (ps ++ #[rawInt pos.line, rawInt pos.col, .ref c']).toList = ps.toList ++ [rawInt pos.line, rawInt pos.col, .ref c'] := by simp
    have eN : ExtN H (upd (upd H P (.tbl (ps ++ #[rawInt pos.line, rawInt pos.col, .ref c']))) c' (CodeO c' (X.env.qual ++ "<lambda>"))) := fun b o e n => by
      have nb : b ≠ P := fun z => n ps (by rw [z, atP] at e; exact (Option.some.inj e).symm)
      rw [upd_ne (ne_of_none e nC), upd_ne nb]
      exact e
    have eK : Kw [] H (upd (upd H P (.tbl (ps ++ #[rawInt pos.line, rawInt pos.col, .ref c']))) c' (CodeO c' (X.env.qual ++ "<lambda>"))) := by
      refine ⟨fun b o e n _ => eN b o e n, fun b xs e => eN b _ e (fun _ z => nomatch z), fun b qs e => ?_, fun b f e => eN b _ e (fun _ z => nomatch z)⟩
      by_cases hb : b = P
      · subst hb
        rw [atP] at e
        cases e
        exact ⟨_, by rw [upd_ne nPc, upd_same], fun z => nomatch z⟩
      · exact ⟨#[], by rw [upd_ne (ne_of_none e nC), upd_ne hb, e]; simp, fun z => nomatch z⟩
    refine last h' tk tk _ ctv c' _ I1 eK (fun p hp => ?_) upd_same (Nat.le_trans hge (Nat.le_of_lt hlt))
    by_cases hb : p.1 = P
    · rw [hu p hp hb, hb]
      refine ⟨_, by rw [upd_ne nPc, upd_same], by rw [eL]; exact PySem.TriplesOk_snoc _ _ _ _ three, fun p' cv hcv => ?_⟩
      rw [eL] at hcv
      rcases among_app _ three hcv with z | z
      · obtain ⟨c0, e1, e2⟩ := named p' cv z
        exact ⟨c0, e1, eN _ _ e2 codeO_ne⟩
      · exact ⟨c', z, upd_same⟩
    · obtain ⟨ps', a1, a2, a3⟩ := good p hp
      refine ⟨ps', by rw [upd_ne (ne_of_none a1 nC), upd_ne hb]; exact a1, a2, fun p' cv hcv => ?_⟩
      obtain ⟨c0, e1, e2⟩ := a3 p' cv hcv
      exact ⟨c0, e1, eN _ _ e2 codeO_ne⟩
end

/-! ### its call -/
section
variable {P : Program} {w : World} {K : PySem.W.Frag} {mg : Str → Option Value} {base : Heap}
/-- such a lambda, called: its body's reading -/
theorem lam_run {k : Nat} {q : Str} {params : Arguments} {body : Expr} {scope : Scope} {f c : Addr} {N ps : List Str} (S : FnScope N ps scope)
    (hbind : ∀ (pm cv ctv : Value) (us : List Value), us.length = ps.length → bindArgs (PySem.W.kla_fn "<lambda>" q params body scope [] pm cv ctv) ⟨us, []⟩ = pure (ps.zip us))
    {A : Around} {outer : List Env} {s : Shared} {H : Hp} {us : List Value} {vs : List V} {Q : VK} (hr : Room (k + 1) A) (e0 : Env0 P w K mg base A outer s H)
    (hf : H f = some (LamO q params body scope f c)) (hc : H c = some (CodeO c q)) (r : Vals vs us) (hl : vs.length = ps.length)
    (hbody : Room k (A.deeper (envOfC q scope s.heap.objs.size f (.ref c))) → ∃ t, PE (cxOf CX0 P w K mg base N q scope f (.ref c) A outer s H E0) body t ∧ t (L2.start N vs) H Q) :
    codeAny (model P w) A (.call (.ref f) ⟨us, []⟩) (CR CX0 outer P w H s Q E0) s := by
  obtain ⟨⟨pm, ctv, of⟩, _, _⟩ := e0.hok f _ hf
  obtain ⟨⟨oc, vs', t', hoc, hd, hv⟩, _, _⟩ := e0.hok c _ hc
  have lim : s.heap.NoLimit := e0.mod.nolimit.keeps fun b o e => (e0.bs b o e).1
  have hkind : ∀ y ∈ ps.zip us, scope.names.lookup y.1 = some .local ∨ (scope.names.lookup y.1 = some .cell ∧ ((cellsFrom (s.heap.objs.size + 1) scope.names []).lookup y.1).isSome = true) := by
    rintro ⟨n, v⟩ hy
    exact (S.par n (List.of_mem_zip hy).1).elim .inl fun z => .inr ⟨z, PySem.W.cellsFrom_some _ _ _ (.inl z)⟩
  refine PySem.W.kla_callFunE hr.depth of rfl S.co S.gen rfl ⟨c, oc, vs', t', rfl, hoc, hd, hv⟩ ?_
  rw [hbind pm (.ref c) ctv us (r.length.symm.trans hl)]
  refine wpAny_pure (wpAny_newFunctionEnv_cells S.kind hkind fun env he s1 x => ?_)
  subst he
  refine ⟨lim.keeps x.toInCall.keep, ?_⟩
  obtain ⟨t, ht, hq⟩ := hbody (hr.deeper _)
  have J : Inv (cxOf CX0 P w K mg base N q scope f (.ref c) A outer s H E0) [] (L2.start N vs) H s1 := inv_start S hr.hd e0 hl r x
  refine PySem.W.kla_codeExpr (wpAny_mono (ht.run [] s1 (L2.start N vs) H Q J hq) (fun v s' z => ?_) fun e s' z => z)
  obtain ⟨w', H', J', rv, z⟩ := z
  exact ⟨w', H', J'.os, J'.bare, J'.base, J'.hok, rv, z⟩
end
end Pw
set_option Elab.async false
set_option linter.all false
set_option maxRecDepth 100000
set_option maxHeartbeats 4000000
namespace Pw
open PySem PySem.Spec PyProof.Rows L2

/-! ### min(xs, key=f, default=d), xs of objects, f's values tuples of ints -/
/-- the first least one by its key -/
def leastK {α : Type} (kf : α → List Int) (a : α) (r : List α) : α := r.foldl (fun b x => if HT.lexLt (kf x) (kf b) = true then x else b) a
theorem leastK_snoc {α : Type} (kf : α → List Int) (a : α) (r : List α) (x : α) : leastK kf a (r ++ [x]) = if HT.lexLt (kf x) (kf (leastK kf a r)) = true then x else leastK kf a r := by
  unfold leastK
  rw [List.foldl_append] <;> rfl
theorem refs_back {as : List Addr} {us : List Value} (r : Vals (as.map V.ref) us) : us = as.map Value.ref := by
  induction as generalizing us with
  | nil =>
    cases r
    rfl
  | cons a as ih =>
    cases r with
    | cons h t =>
      obtain rfl : _ = Value.ref a := h
      rw [List.map_cons, ih t]
theorem minD_args (a f d : Value) : argsOk "min" ⟨[a], [(Str.ofString "key", f), (Str.ofString "default", d)]⟩ := by unfold argsOk; kernel_rfl
theorem minD0_args (a d : Value) : argsOk "min" ⟨[a], [(Str.ofString "default", d)]⟩ := by unfold argsOk; kernel_rfl
theorem maxD0_args (a d : Value) : argsOk "max" ⟨[a], [(Str.ofString "default", d)]⟩ := by unfold argsOk; kernel_rfl

section
variable {X : Cx} {pins : List (Addr × Obj)} {σ : L2.St}
/-- a key's call: from P to P, its value a new tuple of ints -/
def KeyTurn (X : Cx) (σ : L2.St) (q : Value) (P : Hp → Prop) (kf : Addr → List Int) (a : Addr) : Prop :=
  ∀ (pins : List (Addr × Obj)) (s : Shared) (H : Hp) (Q : VK) (E : Value → Shared → Prop), Inv X pins σ H s → P H → (∀ t H', P H' → Kp [] H H' → H' t = some (.tup ((kf a).map V.int)) → Q (.ref t) H') →
    wpAny (model X.prog X.w) X.A.in1 (call q [.ref a]) (EP X pins σ Q) E s
/-- the loop's own objects -/
structure LoopAt (X : Cx) (pins : List (Addr × Obj)) (σ : L2.St) (H : Hp) (s : Shared) (l I S : Addr) (n : Nat) (best : Array Value) : Prop where
  inv : Inv X pins σ H s
  yI : FpOk X pins H I
  yS : FpOk X pins H S
  it : s.heap.IsListIter I l n
  st : ∃ c, s.heap.get? S = some (seqObj "list" best c)
theorem fp_of {H H' : Hp} {b : Addr} (f : FpOk X pins H b) (n : H' b = none) : FpOk X pins H' b := ⟨n, f.2⟩
theorem LoopAt.ne {H : Hp} {s : Shared} {l I S : Addr} {n : Nat} {best : Array Value} (L : LoopAt X pins σ H s l I S n best) : S ≠ I := fun z => by
  obtain ⟨c, hc⟩ := L.st
  obtain ⟨o, ho, h1, h2⟩ := L.it
  rw [z, ho] at hc
  cases hc
  cases h2
/-- the objects of the loop pinned -/
theorem LoopAt.pin {H : Hp} {s : Shared} {l I S : Addr} {n : Nat} {best : Array Value} (L : LoopAt X pins σ H s l I S n best) : Inv X (pins ++ pinsAt [I, S] s.heap) σ H s := by
  obtain ⟨c, hc⟩ := L.st
  obtain ⟨o, ho, h1, h2⟩ := L.it
  refine L.inv.pinned (fun b hb => ?_) (fun b hb => ?_)
  · rcases List.mem_cons.mp hb with rfl | hb
    · exact L.yI
    · rw [List.mem_singleton.mp hb]
      exact L.yS
  · rcases List.mem_cons.mp hb with rfl | hb
    · exact ⟨o, ho, fun v z => by rw [h2] at z; cases z⟩
    · rw [List.mem_singleton.mp hb]
      exact ⟨_, hc, fun v z => by cases z⟩
theorem LoopAt.unpin {H H' : Hp} {s s' : Shared} {l I S : Addr} {n : Nat} {best : Array Value} (L : LoopAt X pins σ H s l I S n best) (J : Inv X (pins ++ pinsAt [I, S] s.heap) σ H' s') : LoopAt X pins σ H' s' l I S n best := by
  obtain ⟨c, hc⟩ := L.st
  obtain ⟨o, ho, h1, h2⟩ := L.it
  have pI := J.pin (I, o) (List.mem_append_right _ (List.mem_append_right _ (mem_pinsAt (List.mem_cons_self ..) ho)))
  have pS := J.pin (S, _) (List.mem_append_right _ (List.mem_append_right _ (mem_pinsAt (List.mem_cons_of_mem _ (List.mem_cons_self ..)) hc)))
  exact ⟨J.unpinned, fp_of L.yI pI.2.1, fp_of L.yS pS.2.1, ⟨o, pI.1, h1, h2⟩, ⟨c, pS.1⟩⟩
/-- the iterator went on -/
theorem LoopAt.next {H : Hp} {s : Shared} {l I S : Addr} {n m : Nat} {best : Array Value} {h' : Heap} {tk : Nat} (L : LoopAt X pins σ H s l I S n best) (k : ∀ b o, b ∉ [I] → s.heap.get? b = some o → h'.get? b = some o) (it : h'.IsListIter I l m) :
    LoopAt X pins σ H { s with heap := h', toks := tk } l I S m best := by
  obtain ⟨c, hc⟩ := L.st
  obtain ⟨f0, f1, f2, f3, f4, f5⟩ := L.yI
  exact ⟨L.inv.turned (fun b o hb e => k b o (by simpa using hb) e) f0 f1 f3 f4 f5, L.yI, L.yS, it, ⟨c, k _ _ (by simpa using L.ne) hc⟩⟩
/-- the best one was written -/
theorem LoopAt.put {H : Hp} {s : Shared} {l I S : Addr} {n : Nat} {best : Array Value} (g : Array Value) (L : LoopAt X pins σ H s l I S n best) :
    LoopAt X pins σ H { s with heap := s.heap.update S (Obj.mapSeq fun _ => g) } l I S n g := by
  obtain ⟨c, hc⟩ := L.st
  obtain ⟨o, ho, h1, h2⟩ := L.it
  have sb := Heap.SameBut.update s.heap S (Obj.mapSeq fun _ => g)
  obtain ⟨f0, f1, f2, f3, f4, f5⟩ := L.yS
  exact ⟨L.inv.turned (t' := s.toks) (fun b o hb e => (sb.2 b hb).trans e) f0 f1 f3 f4 f5, L.yI, L.yS, ⟨o, (sb.2 I L.ne.symm).trans ho, h1, h2⟩, ⟨_, get?_update_seq hc fun _ => g⟩⟩

theorem min_name : (toString "min" ++ toString ".loop" : String) = "min.loop" := by decide
theorem minK_loop {R : Result → Shared → Prop} {l I S : Addr} {q : Addr} {kw : List (Str × Value)} {as : List Addr} {P : Hp → Prop} {kf : Addr → List Int} {a0 : Addr} {rest : List Addr} (hh : X.A.handled = none) (hu : X.A.units + 1 < cLine)
    (hlI : l ≠ I) (has : as = a0 :: rest) (hl : ∀ H, P H → SqL X.K H l (as.map V.ref)) (turn : ∀ a ∈ as, KeyTurn X σ (.ref q) P kf a)
    (hR : ∀ H' s', Inv X pins σ H' s' → P H' → R (.ok (.ret (.ref (leastK kf a0 rest)))) s') :
    ∀ (r j : Nat) (s : Shared) (H : Hp) (tb : Addr), rest.length - j = r → j ≤ rest.length → P H → H tb = some (.tup ((kf (leastK kf a0 (rest.take j))).map V.int)) →
      LoopAt X pins σ H s l I S (j + 1) #[.ref (leastK kf a0 (rest.take j)), .ref tb] →
      codeAny (model X.prog X.w) X.A (.builtin "min.loop" ⟨[.ref I, .ref q, .ref S], kw⟩) R s := by
  intro r
  induction r with
  | zero =>
    intro j s H tb hr hj hP htb L
    have ej : j = rest.length := by omega
    subst ej
    rw [List.take_length] at htb L
    obtain ⟨c, hc⟩ := L.st
    obtain ⟨its, rv, ⟨ol, nl, el, e1, e2, e3⟩, hz⟩ := L.inv.list (hl H hP)
    have hls : s.heap.IsList l (as.map Value.ref).toArray := by
      rw [← refs_back rv]
      exact ⟨ol, el, e1, nl, e3⟩
    have W := Walks.list (prog := X.prog) (w := X.w) (A := X.A.in1) hh I l hlI (as.map Value.ref).toArray
    have hsz : (as.map Value.ref).toArray.size = rest.length + 1 := by rw [List.size_toArray, List.length_map, has]; rfl
    refine codeAny_builtin PySem.F.entry_min_loop ?_
    rw [Around.under_plainId PySem.F.plain_min_loop _]
    show wpAny _ X.A.in1 (seqItems? (.ref S) >>= _) _ _ _
    refine wpAny_bind (wpAny_seqItems hc rfl ?_)
    show wpAny _ X.A.in1 (tryCatch (pyNext (.ref I)) _ >>= _) _ _ _
    refine wpAny_bind (wpAny_tryCatch (W.done _ _ _ ⟨by rw [hsz]; exact L.it, hls⟩ fun h' tk' hk' => ?_))
    have L1 : Inv X pins σ H { s with heap := h', toks := tk' } := by
      obtain ⟨f0, f1, f2, f3, f4, f5⟩ := L.yI
      exact L.inv.turned (fun b o hb e => hk' b o (by simpa using hb) e) f0 f1 f3 f4 f5
    have hS' := hk' S _ (by simpa using L.ne) hc
    show wpAny _ X.A.in1 (updateSeq S (fun _ => #[]) >>= _) _ _ _
    refine wpAny_bind ?_
    refine wpAny_updateSeq hS' rfl (wpAny_bind (wpAny_letGo (wpAny_pure ?_)))
    have sb := Heap.SameBut.update h' S (Obj.mapSeq fun _ => (#[] : Array Value))
    obtain ⟨f0, f1, f2, f3, f4, f5⟩ := L.yS
    exact hR H _ (L1.turned (fun b o hb e => (sb.2 b hb).trans e) f0 f1 f3 f4 f5) hP
  | succ r ih =>
    intro j s H tb hr hj hP htb L
    have hlt : j < rest.length := by omega
    obtain ⟨c, hc⟩ := L.st
    obtain ⟨its, rv, ⟨ol, nl, el, e1, e2, e3⟩, hz⟩ := L.inv.list (hl H hP)
    have hls : s.heap.IsList l (as.map Value.ref).toArray := by
      rw [← refs_back rv]
      exact ⟨ol, el, e1, nl, e3⟩
    have W := Walks.list (prog := X.prog) (w := X.w) (A := X.A.in1) hh I l hlI (as.map Value.ref).toArray
    have hsz : (as.map Value.ref).toArray.size = rest.length + 1 := by rw [List.size_toArray, List.length_map, has]; rfl
    have hx : rest[j]? = some rest[j] := List.getElem?_eq_getElem hlt
    have etake : rest.take (j + 1) = rest.take j ++ [rest[j]] := by rw [List.take_succ, hx]; rfl
    refine codeAny_builtin PySem.F.entry_min_loop ?_
    rw [Around.under_plainId PySem.F.plain_min_loop _]
    show wpAny _ X.A.in1 (seqItems? (.ref S) >>= _) _ _ _
    refine wpAny_bind (wpAny_seqItems hc rfl ?_)
    show wpAny _ X.A.in1 (tryCatch (pyNext (.ref I)) _ >>= _) _ _ _
    refine wpAny_bind (wpAny_tryCatch (W.item (j + 1) _ _ _ (by rw [hsz]; omega) ⟨L.it, hls⟩ fun v h' tk' hv hst' hk' => ?_))
    obtain rfl : v = Value.ref rest[j] := by
      have z : (as.map Value.ref).toArray[j + 1]? = some v := hv
      rw [List.getElem?_toArray, List.getElem?_map, has, List.getElem?_cons_succ, hx] at z
      exact (Option.some.inj z).symm
    have hmem : rest[j] ∈ as := by rw [has]; exact List.mem_cons_of_mem _ (List.getElem_mem hlt)
    have L1 := L.next (tk := tk') hk' hst'.1
    have step : ∀ (Q' : Value → Shared → Prop), (∀ t H2 s2, P H2 → H2 t = some (.tup ((kf rest[j]).map V.int)) → H2 tb = some (.tup ((kf (leastK kf a0 (rest.take j))).map V.int)) →
        LoopAt X pins σ H2 s2 l I S (j + 2) #[.ref (leastK kf a0 (rest.take j)), .ref tb] → Q' (.ref t) s2) → wpAny (model X.prog X.w) X.A.in1 (call (.ref q) [.ref rest[j]]) Q' (fun _ _ => False) { s with heap := h', toks := tk' } := by
      intro Q' hQ'
      refine thn (turn _ hmem _ _ H (fun v H2 => ∃ t, v = .ref t ∧ P H2 ∧ Kp [] H H2 ∧ H2 t = some (.tup ((kf rest[j]).map V.int))) _ L1.pin hP fun t H2 p2 k2 e2 => ⟨t, rfl, p2, k2, e2⟩) fun u s2 ⟨v, H2, J, ru, t, ev, p2, k2, e2⟩ => ?_
      subst ev
      obtain rfl : u = Value.ref t := ru
      exact hQ' t H2 s2 p2 e2 (k2.tup _ _ htb) (L1.unpin J)
    show wpAny _ X.A.in1 (tryCatch (holding [Value.ref rest[j]] (call (.ref q) [.ref rest[j]])) _ >>= _) _ _ _
    refine wpAny_bind (wpAny_tryCatch (wpAny_holding (wpAny_mono (step _ fun t H2 s2 p2 e2 eb L2 => ?_) (fun _ _ z => z) fun _ _ z => z.elim)))
    show wpAny _ X.A.in1 (tryCatch (holding [.ref rest[j], .ref t] (compareOp .Lt (.ref t) (.ref tb) >>= _)) _ >>= _) _ _ _
    obtain ⟨i1, r1, t1, _⟩ := L2.inv.tuple (SqT.of e2)
    obtain ⟨i2, r2, t2, _⟩ := L2.inv.tuple (SqT.of eb)
    refine wpAny_bind (wpAny_tryCatch (wpAny_holding (wpAny_bind (HT.lt_tupInts t1 t2 (intsAre_of r1) (intsAre_of r2) hu ?_))))
    refine wpAny_bind (wpAny_holding (wpAny_truthy_bool ?_))
    refine wpAny_bind (wpAny_letGo (wpAny_pure ?_))
    have el : leastK kf a0 (rest.take (j + 1)) = if HT.lexLt (kf rest[j]) (kf (leastK kf a0 (rest.take j))) = true then rest[j] else leastK kf a0 (rest.take j) := by
      rw [etake, leastK_snoc]
    cases hb : HT.lexLt (kf rest[j]) (kf (leastK kf a0 (rest.take j))) with
    | true =>
      rw [hb, if_pos rfl] at el
      have L3 := L2.put #[.ref rest[j], .ref t]
      obtain ⟨c2, hc2⟩ := L2.st
      simp only [if_true]
      refine wpAny_bind ?_
      refine wpAny_updateSeq hc2 rfl (wpAny_bind (wpAny_letGo ?_))
      rw [min_name]
      refine wpAny_pure ⟨plainId_quiet PySem.F.plain_min_loop _, ih (j + 1) _ H2 t (by omega) (by omega) p2 (by rw [el]; exact e2) (by rw [el]; exact L3)⟩
    | false =>
      rw [hb, if_neg Bool.false_ne_true] at el
      simp only [Bool.false_eq_true, if_false]
      refine wpAny_bind (wpAny_letGo ?_)
      rw [min_name]
      refine wpAny_pure ⟨plainId_quiet PySem.F.plain_min_loop _, ih (j + 1) _ H2 tb (by omega) (by omega) p2 (by rw [el]; exact eb) (by rw [el]; exact L2)⟩
theorem minK_first {R : Result → Shared → Prop} {l I S : Addr} {q : Addr} {kw : List (Str × Value)} {as : List Addr} {P : Hp → Prop} {kf : Addr → List Int} {a0 : Addr} {rest : List Addr} {s : Shared} {H : Hp} (hh : X.A.handled = none) (hu : X.A.units + 1 < cLine)
    (hlI : l ≠ I) (has : as = a0 :: rest) (hl : ∀ H, P H → SqL X.K H l (as.map V.ref)) (turn : ∀ a ∈ as, KeyTurn X σ (.ref q) P kf a)
    (hR : ∀ H' s', Inv X pins σ H' s' → P H' → R (.ok (.ret (.ref (leastK kf a0 rest)))) s') (hP : P H) (L : LoopAt X pins σ H s l I S 0 #[]) :
    codeAny (model X.prog X.w) X.A (.builtin "min.loop" ⟨[.ref I, .ref q, .ref S], kw⟩) R s := by
  obtain ⟨c, hc⟩ := L.st
  obtain ⟨its, rv, ⟨ol, nl, el, e1, e2, e3⟩, hz⟩ := L.inv.list (hl H hP)
  have hls : s.heap.IsList l (as.map Value.ref).toArray := by
    rw [← refs_back rv]
    exact ⟨ol, el, e1, nl, e3⟩
  have W := Walks.list (prog := X.prog) (w := X.w) (A := X.A.in1) hh I l hlI (as.map Value.ref).toArray
  have hsz : (as.map Value.ref).toArray.size = rest.length + 1 := by rw [List.size_toArray, List.length_map, has]; rfl
  refine codeAny_builtin PySem.F.entry_min_loop ?_
  rw [Around.under_plainId PySem.F.plain_min_loop _]
  show wpAny _ X.A.in1 (seqItems? (.ref S) >>= _) _ _ _
  refine wpAny_bind (wpAny_seqItems hc rfl ?_)
  show wpAny _ X.A.in1 (tryCatch (pyNext (.ref I)) _ >>= _) _ _ _
  refine wpAny_bind (wpAny_tryCatch (W.item 0 _ _ _ (by rw [hsz]; omega) ⟨L.it, hls⟩ fun v h' tk' hv hst' hk' => ?_))
  obtain rfl : v = Value.ref a0 := by
    have z : (as.map Value.ref).toArray[0]? = some v := hv
    rw [List.getElem?_toArray, List.getElem?_map, has] at z
    exact (Option.some.inj z).symm
  have L1 := L.next (tk := tk') hk' hst'.1
  show wpAny _ X.A.in1 (tryCatch (holding [Value.ref a0] (call (.ref q) [.ref a0])) _ >>= _) _ _ _
  refine wpAny_bind (wpAny_tryCatch (wpAny_holding (wpAny_mono (turn a0 (by rw [has]; exact List.mem_cons_self ..) _ _ H (fun v H2 => ∃ t, v = .ref t ∧ P H2 ∧ H2 t = some (.tup ((kf a0).map V.int))) (fun _ _ => False) L1.pin hP fun t H2 p2 k2 e2 => ⟨t, rfl, p2, e2⟩) (fun u s2 z => ?_) fun _ _ z => z.elim)))
  obtain ⟨v, H2, J, ru, t, ev, p2, e2⟩ := z
  subst ev
  obtain rfl : u = Value.ref t := ru
  have L2 := L1.unpin J
  obtain ⟨c2, hc2⟩ := L2.st
  show wpAny _ X.A.in1 (updateSeq S (fun _ => #[Value.ref a0, Value.ref t]) >>= _) _ _ _
  refine wpAny_bind ?_
  refine wpAny_updateSeq hc2 rfl ?_
  rw [min_name]
  exact wpAny_pure ⟨plainId_quiet PySem.F.plain_min_loop _, minK_loop hh hu hlI has hl turn hR _ 0 _ H2 t rfl (Nat.zero_le _) p2 (by rw [List.take_zero]; exact e2) (by rw [List.take_zero]; exact L2.put #[.ref a0, .ref t])⟩

/-- min(l, key=q, default=d) -/
theorem minK_call {l q : Addr} {d : V} {ud : Value} {as : List Addr} {P : Hp → Prop} {kf : Addr → List Int} {s : Shared} {H : Hp} {Q : VK} {E : Value → Shared → Prop} (I0 : Inv X pins σ H s) (hh : X.A.handled = none) (hu : X.A.units + 1 < cLine) (rd : RelV d ud) (hP : P H)
    (hl : ∀ H, P H → SqL X.K H l (as.map V.ref)) (turn : ∀ a ∈ as, KeyTurn X σ (.ref q) P kf a) (h0 : as = [] → Q d H) (h1 : ∀ a0 rest H', as = a0 :: rest → P H' → Q (.ref (leastK kf a0 rest)) H') :
    wpAny (model X.prog X.w) X.A (call (.builtin "min") [.ref l] [(Str.ofString "key", .ref q), (Str.ofString "default", ud)]) (EP X pins σ Q) E s := by
  obtain ⟨its, rv, ⟨ol, nl, el, e1, e2, e3⟩, hz⟩ := I0.list (hl H hP)
  have hls : s.heap.IsList l (as.map Value.ref).toArray := by
    rw [← refs_back rv]
    exact ⟨ol, el, e1, nl, e3⟩
  refine kmk_tree PySem.F.kind_min PySem.F.plain_min PySem.F.entry_min (minD_args _ _ _) ?_
  show wpAny _ X.A.in1 (Builtin.Builtins.bindParams "min" ["key", "default"] 0 ⟨[], [(Str.ofString "key", .ref q), (Str.ofString "default", ud)]⟩ >>= _) _ _ s
  refine wpAny_bind (wpAny_of_eq (show Builtin.Builtins.bindParams "min" ["key", "default"] 0 ⟨[], [(Str.ofString "key", .ref q), (Str.ofString "default", ud)]⟩ = pure [some (.ref q), some ud] from rfl) ?_)
  refine wpAny_bind (wpAny_pure ?_)
  refine wpAny_bind (wpAny_pyIter_list hls ?_)
  refine wpAny_bind (wpAny_newList ?_ (Nat.zero_le _))
  rw [min_name]
  refine wpAny_pure ⟨plainId_quiet PySem.F.plain_min_loop _, ?_⟩
  have hSz : (s.heap.push { cls := .type "list_iterator", data := .fields #[.ref l, .int 0 0] }).objs.size = s.heap.objs.size + 1 := size_push' ..
  have gI : ((s.heap.push { cls := .type "list_iterator", data := .fields #[.ref l, .int 0 0] }).push (seqObj "list" #[] 0)).get? s.heap.objs.size = some { cls := .type "list_iterator", data := .fields #[.ref l, .int 0 0] } :=
    Heap.get?_push_of_some _ (Heap.get?_push_size _ rfl)
  have gS : ((s.heap.push { cls := .type "list_iterator", data := .fields #[.ref l, .int 0 0] }).push (seqObj "list" #[] 0)).get? (s.heap.push { cls := .type "list_iterator", data := .fields #[.ref l, .int 0 0] }).objs.size = some (seqObj "list" #[] 0) := Heap.get?_push_size _ rfl
  have J : Inv X pins σ H { s with heap := (s.heap.push { cls := .type "list_iterator", data := .fields #[.ref l, .int 0 0] }).push (seqObj "list" #[] 0) } :=
    I0.kept (t' := s.toks) fun b u e => Heap.get?_push_of_some _ (Heap.get?_push_of_some _ e)
  have L : LoopAt X pins σ H { s with heap := (s.heap.push { cls := .type "list_iterator", data := .fields #[.ref l, .int 0 0] }).push (seqObj "list" #[] 0) } l s.heap.objs.size (s.heap.push { cls := .type "list_iterator", data := .fields #[.ref l, .int 0 0] }).objs.size 0 #[] :=
    ⟨J, I0.fpOk (Nat.le_refl _) (I0.hok.fresh (Nat.le_refl _)), I0.fpOk (by rw [hSz]; omega) (I0.hok.fresh (by rw [hSz]; omega)), ⟨_, gI, rfl, rfl⟩, ⟨0, gS⟩⟩
  have hlI : l ≠ s.heap.objs.size := Nat.ne_of_lt (Heap.lt_size el)
  cases as with
  | cons a0 rest => exact minK_first hh hu hlI rfl hl turn (fun H' s' J' p' => ⟨.ref _, H', J', rfl, h1 a0 rest H' rfl p'⟩) hP L
  | nil =>
    have W := Walks.list (prog := X.prog) (w := X.w) (A := X.A.in1) hh s.heap.objs.size l hlI (([] : List Addr).map Value.ref).toArray
    refine codeAny_builtin PySem.F.entry_min_loop ?_
    rw [Around.under_plainId PySem.F.plain_min_loop _]
    show wpAny _ X.A.in1 (seqItems? (.ref _) >>= _) _ _ _
    refine wpAny_bind (wpAny_seqItems gS rfl ?_)
    show wpAny _ X.A.in1 (tryCatch (pyNext (.ref s.heap.objs.size)) _ >>= _) _ _ _
    refine wpAny_bind (wpAny_tryCatch (W.done _ _ _ ⟨⟨_, gI, rfl, rfl⟩, hls.push _ |>.push _⟩ fun h' tk' hk' => ?_))
    obtain ⟨f0, f1, f2, f3, f4, f5⟩ := L.yI
    have J1 := J.turned (t' := tk') (h' := h') (fun b o hb e => hk' b o (by simpa using hb) e) f0 f1 f3 f4 f5
    show wpAny _ X.A.in1 (rule _ >>= fun _ => ret ud) _ _ _
    exact wpAny_bind (wpAny_rule (wpAny_pure ⟨d, H, J1, rd, h0 rfl⟩))
end
end Pw
set_option Elab.async false
set_option linter.all false
set_option maxRecDepth 100000
set_option maxHeartbeats 4000000
namespace Pw
open PySem PySem.Spec PyProof.Rows L2

/-! ### min(xs, default=d), xs ints -/
def leastI (a : Int) (r : List Int) : Int := r.foldl (fun b x => if x < b then x else b) a
theorem leastI_snoc (a : Int) (r : List Int) (x : Int) : leastI a (r ++ [x]) = if x < leastI a r then x else leastI a r := by
  unfold leastI
  rw [List.foldl_append] <;> rfl
section
variable {X : Cx} {pins : List (Addr × Obj)} {σ : L2.St}
theorem minI_loop {R : Result → Shared → Prop} {l I S : Addr} {kw : List (Str × Value)} {us : List Value} {H : Hp} {n0 : Int} {rest : List Int} (hh : X.A.handled = none)
    (hlI : l ≠ I) (hlS : l ≠ S) (hus : IntsAre us (n0 :: rest)) (hR : ∀ t s', Inv X pins σ H s' → R (.ok (.ret (.int (leastI n0 rest) t))) s') :
    ∀ (r j : Nat) (s : Shared) (tb : Tok), rest.length - j = r → j ≤ rest.length → s.heap.IsList l us.toArray → LoopAt X pins σ H s l I S (j + 1) #[.int (leastI n0 (rest.take j)) tb, .int (leastI n0 (rest.take j)) tb] →
      codeAny (model X.prog X.w) X.A (.builtin "min.loop" ⟨[.ref I, .none, .ref S], kw⟩) R s := by
  have hsz : us.toArray.size = rest.length + 1 := by rw [List.size_toArray, hus.length]; rfl
  have W := Walks.list (prog := X.prog) (w := X.w) (A := X.A.in1) hh I l hlI us.toArray
  intro r
  induction r with
  | zero =>
    intro j s tb hr hj hls L
    have ej : j = rest.length := by omega
    subst ej
    rw [List.take_length] at L
    obtain ⟨c, hc⟩ := L.st
    refine codeAny_builtin PySem.F.entry_min_loop ?_
    rw [Around.under_plainId PySem.F.plain_min_loop _]
    show wpAny _ X.A.in1 (seqItems? (.ref S) >>= _) _ _ _
    refine wpAny_bind (wpAny_seqItems hc rfl ?_)
    show wpAny _ X.A.in1 (tryCatch (pyNext (.ref I)) _ >>= _) _ _ _
    refine wpAny_bind (wpAny_tryCatch (W.done _ _ _ ⟨by rw [hsz]; exact L.it, hls⟩ fun h' tk' hk' => ?_))
    have L1 : Inv X pins σ H { s with heap := h', toks := tk' } := by
      obtain ⟨f0, f1, f2, f3, f4, f5⟩ := L.yI
      exact L.inv.turned (fun b o hb e => hk' b o (by simpa using hb) e) f0 f1 f3 f4 f5
    have hS' := hk' S _ (by simpa using L.ne) hc
    show wpAny _ X.A.in1 (updateSeq S (fun _ => #[]) >>= _) _ _ _
    refine wpAny_bind ?_
    refine wpAny_updateSeq hS' rfl (wpAny_bind (wpAny_letGo (wpAny_pure ?_)))
    have sb := Heap.SameBut.update h' S (Obj.mapSeq fun _ => (#[] : Array Value))
    obtain ⟨f0, f1, f2, f3, f4, f5⟩ := L.yS
    exact hR _ _ (L1.turned (fun b o hb e => (sb.2 b hb).trans e) f0 f1 f3 f4 f5)
  | succ r ih =>
    intro j s tb hr hj hls L
    have hlt : j < rest.length := by omega
    obtain ⟨c, hc⟩ := L.st
    have hx : rest[j]? = some rest[j] := List.getElem?_eq_getElem hlt
    have etake : rest.take (j + 1) = rest.take j ++ [rest[j]] := by rw [List.take_succ, hx]; rfl
    obtain ⟨tx, hux⟩ := hus.get (j + 1) rest[j] (by rw [List.getElem?_cons_succ]; exact hx)
    refine codeAny_builtin PySem.F.entry_min_loop ?_
    rw [Around.under_plainId PySem.F.plain_min_loop _]
    show wpAny _ X.A.in1 (seqItems? (.ref S) >>= _) _ _ _
    refine wpAny_bind (wpAny_seqItems hc rfl ?_)
    show wpAny _ X.A.in1 (tryCatch (pyNext (.ref I)) _ >>= _) _ _ _
    refine wpAny_bind (wpAny_tryCatch (W.item (j + 1) _ _ _ (by rw [hsz]; omega) ⟨L.it, hls⟩ fun v h' tk' hv hst' hk' => ?_))
    obtain rfl : v = Value.int rest[j] tx := by
      have z : us.toArray[j + 1]? = some v := hv
      rw [List.getElem?_toArray, hux] at z
      exact (Option.some.inj z).symm
    have L2 := L.next (tk := tk') hk' hst'.1
    show wpAny _ X.A.in1 (tryCatch (holding [.int rest[j] tx, .int rest[j] tx] (compareOp .Lt (.int rest[j] tx) (.int (leastI n0 (rest.take j)) tb) >>= _)) _ >>= _) _ _ _
    refine wpAny_bind (wpAny_tryCatch (wpAny_holding (wpAny_bind (lt_int ?_))))
    refine wpAny_bind (wpAny_holding (wpAny_truthy_bool ?_))
    refine wpAny_bind (wpAny_letGo (wpAny_pure ?_))
    have el : leastI n0 (rest.take (j + 1)) = if rest[j] < leastI n0 (rest.take j) then rest[j] else leastI n0 (rest.take j) := by
      rw [etake, leastI_snoc]
    by_cases hb : rest[j] < leastI n0 (rest.take j)
    · rw [if_pos hb] at el
      have L3 := L2.put #[.int rest[j] tx, .int rest[j] tx]
      obtain ⟨c2, hc2⟩ := L2.st
      have sb := Heap.SameBut.update h' S (Obj.mapSeq fun _ => #[.int rest[j] tx, .int rest[j] tx])
      simp only [hb, decide_true, if_true]
      refine wpAny_bind ?_
      refine wpAny_updateSeq hc2 rfl (wpAny_bind (wpAny_letGo ?_))
      rw [min_name]
      refine wpAny_pure ⟨plainId_quiet PySem.F.plain_min_loop _, ih (j + 1) _ tx (by omega) (by omega) ?_ (by rw [el]; exact L3)⟩
      obtain ⟨o, ho, z⟩ := hst'.2
      exact ⟨o, (sb.2 l hlS).trans ho, z⟩
    · rw [if_neg hb] at el
      simp only [hb, decide_false, Bool.false_eq_true, if_false]
      refine wpAny_bind (wpAny_letGo ?_)
      rw [min_name]
      exact wpAny_pure ⟨plainId_quiet PySem.F.plain_min_loop _, ih (j + 1) _ tb (by omega) (by omega) hst'.2 (by rw [el]; exact L2)⟩
/-- min(xs, default=d) -/
def rDfmin (K : PySem.W.Frag) : List V → List V → Hp → VK → Prop := fun vs zs H Q => ∃ (l : Addr) (ns : List Int) (d : V), vs = [.ref l] ∧ zs = [d] ∧ SqL K H l (ns.map V.int) ∧ Q (match ns with | [] => d | a :: r => .int (leastI a r)) H
theorem cr_minD (hc : X.calm = true) : CallRK X (.builtin "min") [Str.ofString "default"] (rDfmin X.K) := by
  intro pins s σ H vs zs us ws Q I0 r rz h
  obtain ⟨l, ns, d, rfl, rfl, hs, q⟩ := h
  obtain rfl := Vals.ref1 r
  obtain ⟨ud, rfl, rd⟩ := vals1 rz
  have hh := I0.ok.hd hc
  obtain ⟨its, rv, ⟨ol, nl, el, e1, e2, e3⟩, hz⟩ := I0.list hs
  have hls : s.heap.IsList l its.toArray := ⟨ol, el, e1, nl, e3⟩
  have hi := rv.ints
  refine kmk_tree PySem.F.kind_min PySem.F.plain_min PySem.F.entry_min (minD0_args _ _) ?_
  show wpAny _ X.A.in1 (Builtin.Builtins.bindParams "min" ["key", "default"] 0 ⟨[], [(Str.ofString "default", ud)]⟩ >>= _) _ _ s
  refine wpAny_bind (wpAny_of_eq (show Builtin.Builtins.bindParams "min" ["key", "default"] 0 ⟨[], [(Str.ofString "default", ud)]⟩ = pure [none, some ud] from rfl) ?_)
  refine wpAny_bind (wpAny_pure ?_)
  refine wpAny_bind (wpAny_pyIter_list hls ?_)
  refine wpAny_bind (wpAny_newList ?_ (Nat.zero_le _))
  rw [min_name]
  refine wpAny_pure ⟨plainId_quiet PySem.F.plain_min_loop _, ?_⟩
  have hSz : (s.heap.push { cls := .type "list_iterator", data := .fields #[.ref l, .int 0 0] }).objs.size = s.heap.objs.size + 1 := size_push' ..
  have gI : ((s.heap.push { cls := .type "list_iterator", data := .fields #[.ref l, .int 0 0] }).push (seqObj "list" #[] 0)).get? s.heap.objs.size = some { cls := .type "list_iterator", data := .fields #[.ref l, .int 0 0] } :=
    Heap.get?_push_of_some _ (Heap.get?_push_size _ rfl)
  have gS : ((s.heap.push { cls := .type "list_iterator", data := .fields #[.ref l, .int 0 0] }).push (seqObj "list" #[] 0)).get? (s.heap.push { cls := .type "list_iterator", data := .fields #[.ref l, .int 0 0] }).objs.size = some (seqObj "list" #[] 0) := Heap.get?_push_size _ rfl
  have J : Inv X pins σ H { s with heap := (s.heap.push { cls := .type "list_iterator", data := .fields #[.ref l, .int 0 0] }).push (seqObj "list" #[] 0) } :=
    I0.kept (t' := s.toks) fun b u e => Heap.get?_push_of_some _ (Heap.get?_push_of_some _ e)
  have L : LoopAt X pins σ H { s with heap := (s.heap.push { cls := .type "list_iterator", data := .fields #[.ref l, .int 0 0] }).push (seqObj "list" #[] 0) } l s.heap.objs.size (s.heap.push { cls := .type "list_iterator", data := .fields #[.ref l, .int 0 0] }).objs.size 0 #[] :=
    ⟨J, I0.fpOk (Nat.le_refl _) (I0.hok.fresh (Nat.le_refl _)), I0.fpOk (by rw [hSz]; omega) (I0.hok.fresh (by rw [hSz]; omega)), ⟨_, gI, rfl, rfl⟩, ⟨0, gS⟩⟩
  have hlI : l ≠ s.heap.objs.size := Nat.ne_of_lt (Heap.lt_size el)
  have hlS : l ≠ (s.heap.push { cls := .type "list_iterator", data := .fields #[.ref l, .int 0 0] }).objs.size := by
    rw [hSz]
    exact Nat.ne_of_lt (Nat.lt_succ_of_lt (Heap.lt_size el))
  have hls2 : ((s.heap.push { cls := .type "list_iterator", data := .fields #[.ref l, .int 0 0] }).push (seqObj "list" #[] 0)).IsList l its.toArray := (hls.push _).push _
  have W := Walks.list (prog := X.prog) (w := X.w) (A := X.A.in1) hh s.heap.objs.size l hlI its.toArray
  have hsz : its.toArray.size = ns.length := by rw [List.size_toArray, hi.length]
  refine codeAny_builtin PySem.F.entry_min_loop ?_
  rw [Around.under_plainId PySem.F.plain_min_loop _]
  show wpAny _ X.A.in1 (seqItems? (.ref _) >>= _) _ _ _
  refine wpAny_bind (wpAny_seqItems gS rfl ?_)
  show wpAny _ X.A.in1 (tryCatch (pyNext (.ref s.heap.objs.size)) _ >>= _) _ _ _
  cases ns with
  | nil =>
    refine wpAny_bind (wpAny_tryCatch (W.done _ _ _ ⟨by rw [hsz]; exact ⟨_, gI, rfl, rfl⟩, hls2⟩ fun h' tk' hk' => ?_))
    obtain ⟨f0, f1, f2, f3, f4, f5⟩ := L.yI
    have J1 := J.turned (t' := tk') (h' := h') (fun b o hb e => hk' b o (by simpa using hb) e) f0 f1 f3 f4 f5
    show wpAny _ X.A.in1 (rule _ >>= fun _ => ret ud) _ _ _
    exact wpAny_bind (wpAny_rule (wpAny_pure ⟨d, H, J1, rd, q⟩))
  | cons n0 rest =>
    refine wpAny_bind (wpAny_tryCatch (W.item 0 _ _ _ (by rw [hsz]; exact Nat.succ_pos _) ⟨L.it, hls2⟩ fun v h' tk' hv hst' hk' => ?_))
    obtain ⟨tx, hux⟩ := hi.get 0 n0 rfl
    obtain rfl : v = Value.int n0 tx := by
      have z : its.toArray[0]? = some v := hv
      rw [List.getElem?_toArray, hux] at z
      exact (Option.some.inj z).symm
    have L1 := L.next (tk := tk') hk' hst'.1
    obtain ⟨c2, hc2⟩ := L1.st
    have sb := Heap.SameBut.update h' (s.heap.push { cls := .type "list_iterator", data := .fields #[.ref l, .int 0 0] }).objs.size (Obj.mapSeq fun _ => #[Value.int n0 tx, Value.int n0 tx])
    show wpAny _ X.A.in1 (updateSeq (s.heap.push { cls := .type "list_iterator", data := .fields #[.ref l, .int 0 0] }).objs.size (fun _ => #[Value.int n0 tx, Value.int n0 tx]) >>= _) _ _ _
    refine wpAny_bind ?_
    refine wpAny_updateSeq hc2 rfl ?_
    rw [min_name]
    refine wpAny_pure ⟨plainId_quiet PySem.F.plain_min_loop _, minI_loop hh hlI hlS hi (fun t s' J' => ⟨.int _, H, J', ⟨t, rfl⟩, q⟩) _ 0 _ tx rfl (Nat.zero_le _) ?_ (by rw [List.take_zero]; exact L1.put #[.int n0 tx, .int n0 tx])⟩
    obtain ⟨o, ho, z⟩ := hst'.2
    exact ⟨o, (sb.2 l hlS).trans ho, z⟩
end

/-! ### max(xs, default=d), xs ints -/
def mostI (a : Int) (r : List Int) : Int := r.foldl (fun b x => if x > b then x else b) a
theorem mostI_snoc (a : Int) (r : List Int) (x : Int) : mostI a (r ++ [x]) = if x > mostI a r then x else mostI a r := by
  unfold mostI
  rw [List.foldl_append] <;> rfl
theorem max_name : (toString "max" ++ toString ".loop" : String) = "max.loop" := by decide
section
variable {X : Cx} {pins : List (Addr × Obj)} {σ : L2.St}
theorem maxI_loop {R : Result → Shared → Prop} {l I S : Addr} {kw : List (Str × Value)} {us : List Value} {H : Hp} {n0 : Int} {rest : List Int} (hh : X.A.handled = none)
    (hlI : l ≠ I) (hlS : l ≠ S) (hus : IntsAre us (n0 :: rest)) (hR : ∀ t s', Inv X pins σ H s' → R (.ok (.ret (.int (mostI n0 rest) t))) s') :
    ∀ (r j : Nat) (s : Shared) (tb : Tok), rest.length - j = r → j ≤ rest.length → s.heap.IsList l us.toArray → LoopAt X pins σ H s l I S (j + 1) #[.int (mostI n0 (rest.take j)) tb, .int (mostI n0 (rest.take j)) tb] →
      codeAny (model X.prog X.w) X.A (.builtin "max.loop" ⟨[.ref I, .none, .ref S], kw⟩) R s := by
  have hsz : us.toArray.size = rest.length + 1 := by rw [List.size_toArray, hus.length]; rfl
  have W := Walks.list (prog := X.prog) (w := X.w) (A := X.A.in1) hh I l hlI us.toArray
  intro r
  induction r with
  | zero =>
    intro j s tb hr hj hls L
    have ej : j = rest.length := by omega
    subst ej
    rw [List.take_length] at L
    obtain ⟨c, hc⟩ := L.st
    refine codeAny_builtin PySem.F.entry_max_loop ?_
    rw [Around.under_plainId PySem.F.plain_max_loop _]
    show wpAny _ X.A.in1 (seqItems? (.ref S) >>= _) _ _ _
    refine wpAny_bind (wpAny_seqItems hc rfl ?_)
    show wpAny _ X.A.in1 (tryCatch (pyNext (.ref I)) _ >>= _) _ _ _
    refine wpAny_bind (wpAny_tryCatch (W.done _ _ _ ⟨by rw [hsz]; exact L.it, hls⟩ fun h' tk' hk' => ?_))
    have L1 : Inv X pins σ H { s with heap := h', toks := tk' } := by
      obtain ⟨f0, f1, f2, f3, f4, f5⟩ := L.yI
      exact L.inv.turned (fun b o hb e => hk' b o (by simpa using hb) e) f0 f1 f3 f4 f5
    have hS' := hk' S _ (by simpa using L.ne) hc
    show wpAny _ X.A.in1 (updateSeq S (fun _ => #[]) >>= _) _ _ _
    refine wpAny_bind ?_
    refine wpAny_updateSeq hS' rfl (wpAny_bind (wpAny_letGo (wpAny_pure ?_)))
    have sb := Heap.SameBut.update h' S (Obj.mapSeq fun _ => (#[] : Array Value))
    obtain ⟨f0, f1, f2, f3, f4, f5⟩ := L.yS
    exact hR _ _ (L1.turned (fun b o hb e => (sb.2 b hb).trans e) f0 f1 f3 f4 f5)
  | succ r ih =>
    intro j s tb hr hj hls L
    have hlt : j < rest.length := by omega
    obtain ⟨c, hc⟩ := L.st
    have hx : rest[j]? = some rest[j] := List.getElem?_eq_getElem hlt
    have etake : rest.take (j + 1) = rest.take j ++ [rest[j]] := by rw [List.take_succ, hx]; rfl
    obtain ⟨tx, hux⟩ := hus.get (j + 1) rest[j] (by rw [List.getElem?_cons_succ]; exact hx)
    refine codeAny_builtin PySem.F.entry_max_loop ?_
    rw [Around.under_plainId PySem.F.plain_max_loop _]
    show wpAny _ X.A.in1 (seqItems? (.ref S) >>= _) _ _ _
    refine wpAny_bind (wpAny_seqItems hc rfl ?_)
    show wpAny _ X.A.in1 (tryCatch (pyNext (.ref I)) _ >>= _) _ _ _
    refine wpAny_bind (wpAny_tryCatch (W.item (j + 1) _ _ _ (by rw [hsz]; omega) ⟨L.it, hls⟩ fun v h' tk' hv hst' hk' => ?_))
    obtain rfl : v = Value.int rest[j] tx := by
      have z : us.toArray[j + 1]? = some v := hv
      rw [List.getElem?_toArray, hux] at z
      exact (Option.some.inj z).symm
    have L2 := L.next (tk := tk') hk' hst'.1
    show wpAny _ X.A.in1 (tryCatch (holding [.int rest[j] tx, .int rest[j] tx] (compareOp .Gt (.int rest[j] tx) (.int (mostI n0 (rest.take j)) tb) >>= _)) _ >>= _) _ _ _
    refine wpAny_bind (wpAny_tryCatch (wpAny_holding (wpAny_bind (gt_int ?_))))
    refine wpAny_bind (wpAny_holding (wpAny_truthy_bool ?_))
    refine wpAny_bind (wpAny_letGo (wpAny_pure ?_))
    have el : mostI n0 (rest.take (j + 1)) = if rest[j] > mostI n0 (rest.take j) then rest[j] else mostI n0 (rest.take j) := by
      rw [etake, mostI_snoc]
    by_cases hb : rest[j] > mostI n0 (rest.take j)
    · rw [if_pos hb] at el
      have L3 := L2.put #[.int rest[j] tx, .int rest[j] tx]
      obtain ⟨c2, hc2⟩ := L2.st
      have sb := Heap.SameBut.update h' S (Obj.mapSeq fun _ => #[.int rest[j] tx, .int rest[j] tx])
      simp only [hb, decide_true, if_true]
      refine wpAny_bind ?_
      refine wpAny_updateSeq hc2 rfl (wpAny_bind (wpAny_letGo ?_))
      rw [max_name]
      refine wpAny_pure ⟨plainId_quiet PySem.F.plain_max_loop _, ih (j + 1) _ tx (by omega) (by omega) ?_ (by rw [el]; exact L3)⟩
      obtain ⟨o, ho, z⟩ := hst'.2
      exact ⟨o, (sb.2 l hlS).trans ho, z⟩
    · rw [if_neg hb] at el
      simp only [hb, decide_false, Bool.false_eq_true, if_false]
      refine wpAny_bind (wpAny_letGo ?_)
      rw [max_name]
      exact wpAny_pure ⟨plainId_quiet PySem.F.plain_max_loop _, ih (j + 1) _ tb (by omega) (by omega) hst'.2 (by rw [el]; exact L2)⟩
/-- max(xs, default=d) -/
def rDfmax (K : PySem.W.Frag) : List V → List V → Hp → VK → Prop := fun vs zs H Q => ∃ (l : Addr) (ns : List Int) (d : V), vs = [.ref l] ∧ zs = [d] ∧ SqL K H l (ns.map V.int) ∧ Q (match ns with | [] => d | a :: r => .int (mostI a r)) H
theorem cr_maxD (hc : X.calm = true) : CallRK X (.builtin "max") [Str.ofString "default"] (rDfmax X.K) := by
  intro pins s σ H vs zs us ws Q I0 r rz h
  obtain ⟨l, ns, d, rfl, rfl, hs, q⟩ := h
  obtain rfl := Vals.ref1 r
  obtain ⟨ud, rfl, rd⟩ := vals1 rz
  have hh := I0.ok.hd hc
  obtain ⟨its, rv, ⟨ol, nl, el, e1, e2, e3⟩, hz⟩ := I0.list hs
  have hls : s.heap.IsList l its.toArray := ⟨ol, el, e1, nl, e3⟩
  have hi := rv.ints
  refine kmk_tree PySem.F.kind_max PySem.F.plain_max PySem.F.entry_max (maxD0_args _ _) ?_
  show wpAny _ X.A.in1 (Builtin.Builtins.bindParams "max" ["key", "default"] 0 ⟨[], [(Str.ofString "default", ud)]⟩ >>= _) _ _ s
  refine wpAny_bind (wpAny_of_eq (show Builtin.Builtins.bindParams "max" ["key", "default"] 0 ⟨[], [(Str.ofString "default", ud)]⟩ = pure [none, some ud] from rfl) ?_)
  refine wpAny_bind (wpAny_pure ?_)
  refine wpAny_bind (wpAny_pyIter_list hls ?_)
  refine wpAny_bind (wpAny_newList ?_ (Nat.zero_le _))
  rw [max_name]
  refine wpAny_pure ⟨plainId_quiet PySem.F.plain_max_loop _, ?_⟩
  have hSz : (s.heap.push { cls := .type "list_iterator", data := .fields #[.ref l, .int 0 0] }).objs.size = s.heap.objs.size + 1 := size_push' ..
  have gI : ((s.heap.push { cls := .type "list_iterator", data := .fields #[.ref l, .int 0 0] }).push (seqObj "list" #[] 0)).get? s.heap.objs.size = some { cls := .type "list_iterator", data := .fields #[.ref l, .int 0 0] } :=
    Heap.get?_push_of_some _ (Heap.get?_push_size _ rfl)
  have gS : ((s.heap.push { cls := .type "list_iterator", data := .fields #[.ref l, .int 0 0] }).push (seqObj "list" #[] 0)).get? (s.heap.push { cls := .type "list_iterator", data := .fields #[.ref l, .int 0 0] }).objs.size = some (seqObj "list" #[] 0) := Heap.get?_push_size _ rfl
  have J : Inv X pins σ H { s with heap := (s.heap.push { cls := .type "list_iterator", data := .fields #[.ref l, .int 0 0] }).push (seqObj "list" #[] 0) } :=
    I0.kept (t' := s.toks) fun b u e => Heap.get?_push_of_some _ (Heap.get?_push_of_some _ e)
  have L : LoopAt X pins σ H { s with heap := (s.heap.push { cls := .type "list_iterator", data := .fields #[.ref l, .int 0 0] }).push (seqObj "list" #[] 0) } l s.heap.objs.size (s.heap.push { cls := .type "list_iterator", data := .fields #[.ref l, .int 0 0] }).objs.size 0 #[] :=
    ⟨J, I0.fpOk (Nat.le_refl _) (I0.hok.fresh (Nat.le_refl _)), I0.fpOk (by rw [hSz]; omega) (I0.hok.fresh (by rw [hSz]; omega)), ⟨_, gI, rfl, rfl⟩, ⟨0, gS⟩⟩
  have hlI : l ≠ s.heap.objs.size := Nat.ne_of_lt (Heap.lt_size el)
  have hlS : l ≠ (s.heap.push { cls := .type "list_iterator", data := .fields #[.ref l, .int 0 0] }).objs.size := by
    rw [hSz]
    exact Nat.ne_of_lt (Nat.lt_succ_of_lt (Heap.lt_size el))
  have hls2 : ((s.heap.push { cls := .type "list_iterator", data := .fields #[.ref l, .int 0 0] }).push (seqObj "list" #[] 0)).IsList l its.toArray := (hls.push _).push _
  have W := Walks.list (prog := X.prog) (w := X.w) (A := X.A.in1) hh s.heap.objs.size l hlI its.toArray
  have hsz : its.toArray.size = ns.length := by rw [List.size_toArray, hi.length]
  refine codeAny_builtin PySem.F.entry_max_loop ?_
  rw [Around.under_plainId PySem.F.plain_max_loop _]
  show wpAny _ X.A.in1 (seqItems? (.ref _) >>= _) _ _ _
  refine wpAny_bind (wpAny_seqItems gS rfl ?_)
  show wpAny _ X.A.in1 (tryCatch (pyNext (.ref s.heap.objs.size)) _ >>= _) _ _ _
  cases ns with
  | nil =>
    refine wpAny_bind (wpAny_tryCatch (W.done _ _ _ ⟨by rw [hsz]; exact ⟨_, gI, rfl, rfl⟩, hls2⟩ fun h' tk' hk' => ?_))
    obtain ⟨f0, f1, f2, f3, f4, f5⟩ := L.yI
    have J1 := J.turned (t' := tk') (h' := h') (fun b o hb e => hk' b o (by simpa using hb) e) f0 f1 f3 f4 f5
    show wpAny _ X.A.in1 (rule _ >>= fun _ => ret ud) _ _ _
    exact wpAny_bind (wpAny_rule (wpAny_pure ⟨d, H, J1, rd, q⟩))
  | cons n0 rest =>
    refine wpAny_bind (wpAny_tryCatch (W.item 0 _ _ _ (by rw [hsz]; exact Nat.succ_pos _) ⟨L.it, hls2⟩ fun v h' tk' hv hst' hk' => ?_))
    obtain ⟨tx, hux⟩ := hi.get 0 n0 rfl
    obtain rfl : v = Value.int n0 tx := by
      have z : its.toArray[0]? = some v := hv
      rw [List.getElem?_toArray, hux] at z
      exact (Option.some.inj z).symm
    have L1 := L.next (tk := tk') hk' hst'.1
    obtain ⟨c2, hc2⟩ := L1.st
    have sb := Heap.SameBut.update h' (s.heap.push { cls := .type "list_iterator", data := .fields #[.ref l, .int 0 0] }).objs.size (Obj.mapSeq fun _ => #[Value.int n0 tx, Value.int n0 tx])
    show wpAny _ X.A.in1 (updateSeq (s.heap.push { cls := .type "list_iterator", data := .fields #[.ref l, .int 0 0] }).objs.size (fun _ => #[Value.int n0 tx, Value.int n0 tx]) >>= _) _ _ _
    refine wpAny_bind ?_
    refine wpAny_updateSeq hc2 rfl ?_
    rw [max_name]
    refine wpAny_pure ⟨plainId_quiet PySem.F.plain_max_loop _, maxI_loop hh hlI hlS hi (fun t s' J' => ⟨.int _, H, J', ⟨t, rfl⟩, q⟩) _ 0 _ tx rfl (Nat.zero_le _) ?_ (by rw [List.take_zero]; exact L1.put #[.int n0 tx, .int n0 tx])⟩
    obtain ⟨o, ho, z⟩ := hst'.2
    exact ⟨o, (sb.2 l hlS).trans ho, z⟩
end
end Pw
set_option Elab.async false
set_option linter.all false
set_option maxRecDepth 100000
set_option maxHeartbeats 4000000
namespace Pw
open PySem PySem.Spec PyProof.Rows L2 LamX
section
variable {X : Cx} {σ : L2.St}
/-- a lambda's body, read -/
def LamB (X : Cx) (k : Nat) (q : Str) (scope : Scope) (N : List Str) (body : Expr) (tb : TE) : Prop :=
  ∀ (A : Around) (outer : List Env) (s : Shared) (H : Hp) (f c : Addr), Room k (A.deeper (envOfC q scope s.heap.objs.size f (.ref c))) → PE (cxOf CX0 X.prog X.w X.K X.mg X.base N q scope f (.ref c) A outer s H E0) body tb
theorem key_lam {k : Nat} {q p : Str} {params : Arguments} {body : Expr} {scope : Scope} {f c : Addr} {N : List Str} {tb : TE} {P : Hp → Prop} {kf : Addr → List Int} {a : Addr} (S : FnScope N [p] scope)
    (hbind : ∀ (pm cv ctv : Value) (us : List Value), us.length = [p].length → bindArgs (PySem.W.kla_fn "<lambda>" q params body scope [] pm cv ctv) ⟨us, []⟩ = pure ([p].zip us))
    (hr : Room (k + 2) X.A) (hb : LamB X k q scope N body tb) (hf : ∀ H, P H → H f = some (LamO q params body scope f c) ∧ H c = some (CodeO c q))
    (ht : ∀ H Q, P H → (∀ t H', P H' → Kp [] H H' → H' t = some (.tup ((kf a).map V.int)) → Q (.ref t) H') → tb (L2.start N [.ref a]) H Q) : KeyTurn X σ (.ref f) P kf a := by
  intro pins s H Q E I hP hQ
  obtain ⟨h1, h2⟩ := hf H hP
  refine wpAny_call (codeAny_mono (lam_run (us := [.ref a]) (vs := [.ref a]) (Q := Q) S hbind hr.in1 I.env0.in1 h1 h2 (.cons rfl .nil) rfl fun hr' => ⟨tb, hb _ _ _ _ _ _ hr', ht H Q hP hQ⟩) fun r s' z => ?_)
  cases r with
  | error e => exact (show False from z).elim
  | ok fl =>
    cases fl with
    | ret u => exact I.after z
    | next => exact False.elim z
    | brk => exact False.elim z
    | cont => exact False.elim z
/-- min(xs, key=lambda p: body, default=d) -/
def rMinLam (K : PySem.W.Frag) (q : Str) (params : Arguments) (body : Expr) (scope : Scope) (N : List Str) (tb : TE) : List V → List V → Hp → VK → Prop := fun vs zs H Q =>
  ∃ (l f c : Addr) (d : V) (as : List Addr) (P : Hp → Prop) (kf : Addr → List Int), vs = [.ref l] ∧ zs = [.ref f, d] ∧ P H ∧ (∀ H, P H → SqL K H l (as.map V.ref) ∧ H f = some (LamO q params body scope f c) ∧ H c = some (CodeO c q)) ∧
    (∀ a ∈ as, ∀ H Q, P H → (∀ t H', P H' → Kp [] H H' → H' t = some (.tup ((kf a).map V.int)) → Q (.ref t) H') → tb (L2.start N [.ref a]) H Q) ∧
    (as = [] → Q d H) ∧ ∀ a0 rest H', as = a0 :: rest → P H' → Q (.ref (leastK kf a0 rest)) H'
theorem cr_minLam {k : Nat} {q p : Str} {params : Arguments} {body : Expr} {scope : Scope} {N : List Str} {tb : TE} (S : FnScope N [p] scope)
    (hbind : ∀ (pm cv ctv : Value) (us : List Value), us.length = [p].length → bindArgs (PySem.W.kla_fn "<lambda>" q params body scope [] pm cv ctv) ⟨us, []⟩ = pure ([p].zip us))
    (hr : Room (k + 2) X.A) (hb : LamB X k q scope N body tb) : CallRK X (.builtin "min") [Str.ofString "key", Str.ofString "default"] (rMinLam X.K q params body scope N tb) := by
  intro pins s σ H vs zs us ws Q I r rz h
  obtain ⟨l, f, c, d, as, P, kf, rfl, rfl, hP, hl, ht, h0, h1⟩ := h
  obtain rfl := Vals.ref1 r
  obtain ⟨u1, ud, rfl, r1, rd⟩ := vals2 rz
  obtain rfl : u1 = Value.ref f := r1
  exact minK_call I hr.hd (by have := hr.un; omega) rd hP (fun H hP => (hl H hP).1) (fun a ha => key_lam S hbind hr hb (fun H hP => (hl H hP).2) (ht a ha)) h0 h1
end
end Pw
set_option Elab.async false
set_option linter.all false
set_option maxRecDepth 100000
set_option maxHeartbeats 4000000
namespace Pw
open PySem PySem.Spec PyProof.Rows L2

/-! ### sorted(xs), xs tuples of ints and texts of one shape -/
abbrev SKey : Type := List (Int ⊕ List Nat)
/-- the key of the items of a tuple, by its shape: true at the places of texts -/
def keyL (shape : Nat → Bool) : Nat → List PyData → Option SKey
  | _, [] => some []
  | i, .int n :: r => if shape i = true then none else (keyL shape (i + 1) r).map (Sum.inl n :: ·)
  | i, .str x :: r => if shape i = true then (keyL shape (i + 1) r).map (Sum.inr x.cps.toList :: ·) else none
  | _, _ :: _ => none
def keyD (shape : Nat → Bool) : PyData → Option SKey
  | .tuple (d :: ds) => keyL shape 0 (d :: ds)
  | _ => none
/-- a before b -/
abbrev skLt (a b : SKey) : Bool := lexLt itemOrd a b
theorem key_of_items {H : Hp} {shape : Nat → Bool} : ∀ {xs : List V} {ds : List PyData} {us : List Value} (i : Nat), DTs H xs ds → Vals xs us → ∀ k, keyL shape i ds = some k → tupItems shape i us = some k
  | _, _, _, _, .nil, .nil, k, h => h
  | _, _, _, i, .cons (d := d) a t, .cons r rt, k, h => by
    cases a with
    | int n =>
      obtain ⟨tk, rfl⟩ := r
      unfold keyL at h
      unfold tupItems
      split at h
      · cases h
      · rename_i q
        rw [if_neg q]
        cases e : keyL shape (i + 1) _ with
        | none => rw [e] at h; cases h
        | some k' =>
          rw [e] at h
          rw [key_of_items (i + 1) t rt k' e]
          exact h
    | str x =>
      obtain ⟨tk, rfl⟩ := r
      unfold keyL at h
      unfold tupItems
      split at h
      · rename_i q
        rw [if_pos q]
        cases e : keyL shape (i + 1) _ with
        | none => rw [e] at h; cases h
        | some k' =>
          rw [e] at h
          rw [key_of_items (i + 1) t rt k' e]
          exact h
      · cases h
    | non => unfold keyL at h; cases h
    | bl b => unfold keyL at h; cases h
    | tup _ _ => unfold keyL at h; cases h
theorem paired_perm {α β : Type} {R : α → β → Prop} {l l' : List α} (h : l'.Perm l) : ∀ {m : List β}, Paired R l m → ∃ m', m'.Perm m ∧ Paired R l' m' := by
  induction h with
  | nil => intro m r; exact ⟨m, .refl m, r⟩
  | cons x _ ih =>
    intro m r
    cases r with
    | cons a t =>
      obtain ⟨m', p, r'⟩ := ih t
      exact ⟨_, p.cons _, .cons a r'⟩
  | swap x y l =>
    intro m r
    cases r with
    | cons a t =>
      cases t with
      | cons b t => exact ⟨_, .swap _ _ _, .cons b (.cons a t)⟩
  | trans _ _ ih1 ih2 =>
    intro m r
    obtain ⟨m2, p2, r2⟩ := ih2 r
    obtain ⟨m1, p1, r1⟩ := ih1 r2
    exact ⟨m1, p1.trans p2, r1⟩
theorem DTs.paired {H : Hp} : ∀ {vs : List V} {ds : List PyData}, DTs H vs ds → Paired (DT H) vs ds
  | _, _, .nil => .nil
  | _, _, .cons a t => .cons a t.paired
theorem DTs.of_paired {H : Hp} : ∀ {vs : List V} {ds : List PyData}, Paired (DT H) vs ds → DTs H vs ds
  | _, _, .nil => .nil
  | _, _, .cons a t => .cons a (DTs.of_paired t)
theorem paired_pairwise {α β : Type} {R : α → β → Prop} {P : α → α → Prop} {T : β → β → Prop} (h : ∀ a b c d, R a c → R b d → P a b → T c d) : ∀ {l : List α} {m : List β}, Paired R l m → l.Pairwise P → m.Pairwise T
  | _, _, .nil, _ => .nil
  | _, _, .cons (b := c) (l₂ := m) a t, p => by
    obtain ⟨p1, p2⟩ := List.pairwise_cons.mp p
    refine List.pairwise_cons.mpr ⟨fun d hd => ?_, paired_pairwise h t p2⟩
    have mem : ∀ {l : List α} {m : List β}, Paired R l m → d ∈ m → ∃ x ∈ l, R x d := by
      intro l m r
      induction r with
      | nil => intro z; cases z
      | cons a t ih =>
        intro z
        rcases List.mem_cons.mp z with rfl | z
        · exact ⟨_, List.mem_cons_self .., a⟩
        · obtain ⟨x, h1, h2⟩ := ih z
          exact ⟨x, List.mem_cons_of_mem _ h1, h2⟩
    obtain ⟨x, h1, h2⟩ := mem t hd
    exact h _ _ _ _ a h2 (p1 x h1)

section
variable {X : Cx}
def rSortedT : List V → Hp → VK → Prop := fun vs H Q => ∃ (a : Addr) (ds : List PyData) (shape : Nat → Bool), vs = [V.ref a] ∧ LD H a ds ∧ (∀ d ∈ ds, ∃ k, keyD shape d = some k) ∧
  ∀ (p : Addr) (H' : Hp) (es : List PyData), H p = none → Kp [] H H' → LD H' p es → es.Perm ds → es.Pairwise (fun x y => ∀ k l, keyD shape x = some k → keyD shape y = some l → skLt l k = false) → Q (.ref p) H'
theorem cr_sortedT : CallR X (.builtin "sorted") rSortedT := by
  intro pins s σ H vs us Q I r h
  obtain ⟨a, ds, shape, rfl, ⟨xs, ha, hxs⟩, hk, q⟩ := h
  obtain rfl := Vals.ref1 r
  obtain ⟨its, rv, ⟨ol, nl, el, e1, e2, e3⟩, hz⟩ := I.list (SqL.of ha)
  -- the items: tuples at addresses
  have refs : ∀ {xs : List V} {ds : List PyData}, DTs H xs ds → (∀ d ∈ ds, ∃ k, keyD shape d = some k) → ∃ as : List Addr, xs = as.map V.ref ∧ Paired (fun b d => ∃ k, keyD shape d = some k ∧ G.tupKeyC s.heap shape (.ref b) = some k ∧ DT H (.ref b) d) as ds ∧ ∃ fs, TupsOf s.heap shape (as.map Value.ref) fs := by
    intro xs ds h
    induction h using DTs.rec (motive_1 := fun _ _ _ => True) with
    | nil => intro _; exact ⟨[], rfl, .nil, [], .nil⟩
    | non => trivial
    | bl _ => trivial
    | int _ => trivial
    | str _ => trivial
    | tup _ _ _ => trivial
    | @cons v vs d ds hd ht _ ih =>
      intro hk
      obtain ⟨as, e, p, fs, tf⟩ := ih fun d hd => hk d (List.mem_cons_of_mem _ hd)
      obtain ⟨k, ek⟩ := hk d (List.mem_cons_self ..)
      cases hd with
      | @tup b ys es hb hys =>
        cases es with
        | nil => cases ek
        | cons e0 es =>
          obtain ⟨us, ru, ⟨o, ho, hc, n, hdat⟩, _⟩ := I.tuple (SqT.of hb)
          have ek' : keyL shape 0 (e0 :: es) = some k := ek
          have hit := key_of_items 0 hys ru k ek'
          have tk : G.tupKeyC s.heap shape (.ref b) = some k := by
            unfold G.tupKeyC
            have t1 : G.isTupObj s.heap (.ref b) = true := by
              simp only [G.isTupObj, ho, hc]
              rfl
            rw [if_pos t1]
            simp only [tupKey, ho, hdat]
            exact hit
          refine ⟨b :: as, by rw [e]; rfl, .cons ⟨k, ek, tk, .tup hb hys⟩ p, ?_⟩
          cases ru with
          | nil => cases hys
          | @cons y u ys' us' ry rys =>
            refine ⟨u :: fs, .cons ⟨b, o, _, n, rfl, ho, hc, hdat, by simp, fun z => ?_, fun z => ?_⟩ tf⟩
            · cases hys with
              | cons h0 _ =>
                cases h0 with
                | int i => obtain ⟨t, rfl⟩ := ry; exact ⟨i, t, rfl⟩
                | str x => unfold keyL at ek'; rw [z] at ek'; cases ek'
                | non => unfold keyL at ek'; cases ek'
                | bl _ => unfold keyL at ek'; cases ek'
                | tup _ _ => unfold keyL at ek'; cases ek'
            · cases hys with
              | cons h0 _ =>
                cases h0 with
                | int i => unfold keyL at ek'; rw [z] at ek'; cases ek'
                | str x => obtain ⟨t, rfl⟩ := ry; exact ⟨x, t, rfl⟩
                | non => unfold keyL at ek'; cases ek'
                | bl _ => unfold keyL at ek'; cases ek'
                | tup _ _ => unfold keyL at ek'; cases ek'
      | _ => cases ek
  obtain ⟨as, rfl, pk, fs, tf⟩ := refs hxs hk
  obtain rfl := refs_back rv
  have hkeys : ∀ v ∈ as.map Value.ref, ∃ l, G.tupKeyC s.heap shape v = some l := by
    have go : ∀ {as : List Addr} {ds : List PyData}, Paired (fun b d => ∃ k, keyD shape d = some k ∧ G.tupKeyC s.heap shape (.ref b) = some k ∧ DT H (.ref b) d) as ds → ∀ v ∈ as.map Value.ref, ∃ l, G.tupKeyC s.heap shape v = some l := by
      intro as ds p
      induction p with
      | nil => intro v hv; cases hv
      | cons h _ ih =>
        intro v hv
        rcases List.mem_cons.mp hv with rfl | hv
        · obtain ⟨k, _, e, _⟩ := h
          exact ⟨k, e⟩
        · exact ih v hv
    exact go pk
  have hz' : (as.map Value.ref).length ≤ sizeLine := by
    rw [List.length_map] at hz ⊢
    exact hz
  refine G.sorted_tups ⟨ol, el, e1, nl, e3⟩ tf hkeys hz' fun st' hp hs _ => ?_
  -- what comes out: the same addresses, in order
  have pl : (arrOf st').toList.Perm ((as.map Value.ref).zip (as.map Value.ref)) := by
    have z := Array.perm_iff_toList_perm.mp hp
    rwa [pairsOf_toList] at z
  have ez : (as.map Value.ref).zip (as.map Value.ref) = as.map fun b => (Value.ref b, Value.ref b) := by
    rw [List.zip_map']
  rw [ez] at pl
  obtain ⟨bs, ebs, pb⟩ : ∃ bs : List Addr, (arrOf st').toList = bs.map (fun b => (Value.ref b, Value.ref b)) ∧ bs.Perm as := by
    have back : ∀ {l : List Keyed} {as : List Addr}, l.Perm (as.map fun b => (Value.ref b, Value.ref b)) → ∀ p ∈ l, ∃ b, p = (Value.ref b, Value.ref b) := fun h p hp => by
      obtain ⟨b, _, e⟩ := List.mem_map.mp (h.mem_iff.mp hp)
      exact ⟨b, e.symm⟩
    have form : ∀ l : List Keyed, (∀ p ∈ l, ∃ b, p = (Value.ref b, Value.ref b)) → ∃ bs : List Addr, l = bs.map (fun b => (Value.ref b, Value.ref b)) := by
      intro l
      induction l with
      | nil => intro _; exact ⟨[], rfl⟩
      | cons p l ih =>
        intro h
        obtain ⟨b, rfl⟩ := h p (List.mem_cons_self ..)
        obtain ⟨bs, rfl⟩ := ih fun p hp => h p (List.mem_cons_of_mem _ hp)
        exact ⟨b :: bs, rfl⟩
    obtain ⟨bs, e⟩ := form _ (back pl)
    refine ⟨bs, e, ?_⟩
    rw [e] at pl
    have g : ∀ l : List Addr, (l.map (fun b => (Value.ref b, Value.ref b))).map (fun p : Keyed => match p.1 with | .ref b => b | _ => 0) = l := fun l => by
      rw [List.map_map]
      exact List.map_id _
    have z := pl.map (fun p : Keyed => match p.1 with | .ref b => b | _ => 0)
    rwa [g, g] at z
  have eout : ((arrOf st').map (·.2)) = (bs.map Value.ref).toArray := by
    apply Array.toList_inj.mp
    rw [Array.toList_map, ebs, List.map_map]
    rfl
  have hsz : (arrOf st').size = bs.length := by
    rw [← Array.length_toList, ebs, List.length_map]
  have hlen : bs.length = as.length := pb.length_eq
  -- in order
  have hpw : bs.Pairwise fun b c => ∀ k l, G.tupKeyC s.heap shape (.ref b) = some k → G.tupKeyC s.heap shape (.ref c) = some l → skLt l k = false := by
    refine List.pairwise_iff_getElem.mpr fun i j hi hj hij k l ek el => ?_
    have z := hs i j (Nat.le_of_lt hij) (by rw [pairsOf_size, List.length_map]; omega)
    have at_ : ∀ (i : Nat) (h : i < bs.length), (arrOf st')[i]? = some (Value.ref bs[i], Value.ref bs[i]) := fun i h => by
      rw [← Array.getElem?_toList, ebs, List.getElem?_map, List.getElem?_eq_getElem h]
      rfl
    have kk : ∀ (i : Nat) (h : i < bs.length) (k : SKey), G.tupKeyC s.heap shape (.ref bs[i]) = some k → KK (G.tupKindC s.heap shape) (arrOf st') i = k := fun i h k e => by
      unfold KK
      rw [at_ i h]
      show (G.tupKeyC s.heap shape (.ref bs[i])).getD _ = k
      rw [e]
      rfl
    rw [kk i hi k ek, kk j hj l el] at z
    exact z
  obtain ⟨es, pe, re⟩ := paired_perm pb pk
  have hes : es.Pairwise fun x y => ∀ k l, keyD shape x = some k → keyD shape y = some l → skLt l k = false := by
    refine paired_pairwise (fun b c x y hb hc z k l ek el => ?_) re hpw
    obtain ⟨k', a1, a2, _⟩ := hb
    obtain ⟨l', b1, b2, _⟩ := hc
    rw [a1] at ek
    rw [b1] at el
    cases ek
    cases el
    exact z _ _ a2 b2
  have hdt : ∀ {bs : List Addr} {es : List PyData}, Paired (fun b d => ∃ k, keyD shape d = some k ∧ G.tupKeyC s.heap shape (.ref b) = some k ∧ DT H (.ref b) d) bs es → DTs H (bs.map V.ref) es := by
    intro bs es p
    induction p with
    | nil => exact .nil
    | cons h _ ih =>
      obtain ⟨_, _, _, d⟩ := h
      exact .cons d ih
  have hfree : H (s.heap.objs.size + 1) = none := I.hok.fresh (Nat.le_succ _)
  obtain ⟨ep, he'⟩ := PyProof.Rows.sortedAll_at s.heap (as.map Value.ref) ((arrOf st').map (·.2))
  have rr : Vals (bs.map V.ref) (bs.map Value.ref) := by
    clear ebs eout hsz hlen hpw pb re
    induction bs with
    | nil => exact .nil
    | cons b bs ih => exact .cons rfl ih
  refine ⟨.ref (s.heap.objs.size + 1), upd H (s.heap.objs.size + 1) (.lst (bs.map V.ref)), I.laid (t' := s.toks) (fun _ _ => PyProof.Rows.sortedAll_old) (Nat.le_succ _) ⟨?_, bs.map Value.ref, ep, rr, ?_⟩, rfl, q _ _ es hfree (Kp.new hfree) ⟨_, upd_same, (hdt re).kp (Kp.new hfree)⟩ pe hes⟩
  · rw [List.length_map, hlen]
    rw [List.length_map] at hz'
    exact hz'
  · rw [← eout]
    exact he'
end
end Pw
set_option Elab.async false
set_option linter.all false
set_option maxRecDepth 100000
set_option maxHeartbeats 4000000
namespace Pw
open PySem PySem.Spec PyProof.Rows L2
/-! ### methods called with keywords -/
def tMethN (C : Addr) (m : Str) (n l : Nat) (sp : Sp) (gV : List V → List V → List V) (E : XK) (ta : TE) (t tk : TA) : TE := fun σ H Q => ta σ H fun x H1 => ∃ a dx fs, x = .ref a ∧ H1 a = some (.ins C dx fs) ∧ fs.lookup m = none ∧
  t σ H1 fun vs H2 => tk σ H2 fun zs H3 => vs.length = n ∧ zs.length = l ∧ sp (gV (x :: vs) zs) H3 Q E
section
variable {X : Cx} {CX : CXT} {k n : Nat} {f C : Addr} {fd : FuncData} {ps ks : List Str} {sp : Sp} {E : XK} {m : Str} {apos pos : Pos} {o e : Expr} {es : List Expr} {kws : List Keyword} {ta : TE} {t tk : TA} {g : List Value → List Value → List Value} {gV : List V → List V → List V}
/-- o.m(k = v, ..) -/
theorem pe_methK0 {pl : Sem Bool} (he : PE X o ta) (c : Cls X.K C) (hm : Meth X.K C m f) (F : FnOk X.prog X.w X.K X.mg X.base CX k f fd ps sp) (hr : Room k X.A) (hb : KBn X.K fd ps 1 ks g gV) (hx : Passes CX X E) (hkw : PK X kws tk)
    (hall : (backToKw pos (keywordEach kws X.env)).all (·.1.isSome) = true := by rfl) (hks : (backToKw pos (keywordEach kws X.env)).filterMap (·.1) = ks := by rfl)
    (hpl : ((backTo pos (starEach [] X.env)).any (·.1) || (backToKw pos (keywordEach kws X.env)).any (·.1.isNone)) = false := by rfl)
    (ht : eval (.Call (.Attribute o m apos) [] kws pos) X.env = (do
      let ov ← eval o X.env
      standAt apos.atName
      let (f, first) ← holding [ov] (getMethod ov m pl)
      callWith pos f first (backTo pos (starEach [] X.env)) (backToKw pos (keywordEach kws X.env))) := by rfl) :
    PE X (.Call (.Attribute o m apos) [] kws pos) (tMethN C m 0 ks.length sp gV E ta tNil tk) := by
  refine ⟨fun pins s σ H Q I h => ?_⟩
  refine PySem.W.methodCall_KW (pl := pl) (thn (he.run pins s σ H _ I h) fun u s1 ⟨x, H1, I1, rx, a, dx, fs, ex, ea, l, q⟩ => ?_) ht
  subst ex
  obtain rfl : u = Value.ref a := rx
  refine getmeth_ok I1 ea c hm l ?_
  refine PySem.W.callWith_KW0 (first := [.ref a]) (h₀ := X.base) I.ok.mod.kin hm.kp hall ?_ hpl
  refine thn (hkw.run pos pins s1 σ H1 _ I1 q) fun ws s2 ⟨zs, H2, I2, rz, l1, l2, q2⟩ => ⟨I2.kIn, ?_⟩
  rw [hks]
  exact run_fnN (us := [.ref a]) (vs := [.ref a]) F hr hb hx I2 (.cons rfl .nil) rz rfl l2 q2
/-- o.m(e, .., k = v, ..) -/
theorem pe_methK {pl : Sem Bool} (he : PE X o ta) (c : Cls X.K C) (hm : Meth X.K C m f) (F : FnOk X.prog X.w X.K X.mg X.base CX k f fd ps sp) (hr : Room k X.A) (hb : KBn X.K fd ps (n + 1) ks g gV) (hx : Passes CX X E) (ha : PA X (e :: es) t) (hkw : PK X kws tk)
    (hall : (backToKw pos (keywordEach kws X.env)).all (·.1.isSome) = true := by rfl) (hks : (backToKw pos (keywordEach kws X.env)).filterMap (·.1) = ks := by rfl)
    (hst : starEach (e :: es) X.env = (false, eval e X.env) :: starEach es X.env := by rfl)
    (hpl : ((backTo pos (starEach (e :: es) X.env)).any (·.1) || (backToKw pos (keywordEach kws X.env)).any (·.1.isNone)) = false := by rfl)
    (ht : eval (.Call (.Attribute o m apos) (e :: es) kws pos) X.env = (do
      let ov ← eval o X.env
      standAt apos.atName
      let (f, first) ← holding [ov] (getMethod ov m pl)
      callWith pos f first (backTo pos (starEach (e :: es) X.env)) (backToKw pos (keywordEach kws X.env))) := by rfl) :
    PE X (.Call (.Attribute o m apos) (e :: es) kws pos) (tMethN C m n ks.length sp gV E ta t tk) := by
  refine ⟨fun pins s σ H Q I h => ?_⟩
  refine PySem.W.methodCall_KW (pl := pl) (thn (he.run pins s σ H _ I h) fun u s1 ⟨x, H1, I1, rx, a, dx, fs, ex, ea, l, q⟩ => ?_) ht
  subst ex
  obtain rfl : u = Value.ref a := rx
  refine getmeth_ok I1 ea c hm l ?_
  refine PySem.W.callWith_KW (first := [.ref a]) (h₀ := X.base) I.ok.mod.kin hm.kp hall (thn (ha.run pos pins s1 σ H1 _ I1 q) fun us s2 ⟨vs, H2, I2, r, q2⟩ => ?_) hpl hst
  refine thn (hkw.run pos pins s2 σ H2 _ I2 q2) fun ws s3 ⟨zs, H3, I3, rz, l1, l2, q3⟩ => ⟨I3.kIn, ?_⟩
  rw [hks]
  exact run_fnN (us := .ref a :: us) (vs := .ref a :: vs) F hr hb hx I3 (.cons rfl r) rz (by rw [List.length_cons, l1]) l2 q3
end
section
variable {K : PySem.W.Frag} {x qual : Str} {params : Arguments} {body : List Stmt} {scope : Scope} {f : Addr} {fd : FuncData} {ps : List Str}
/-- keywords to a def without defaults -/
theorem kbindsN (F : FunD K x qual params body scope [] [] f fd) (n : Nat) (ks : List Str) (g : {α : Type} → List α → List α → List α)
    (hrel : ∀ {vs zs : List V} {us ws : List Value}, Vals vs us → Vals zs ws → Vals (g vs zs) (g us ws))
    (h : ∀ (kV doc pm : Value) (an : Option Addr) (cdv ct : Value) (us ws : List Value), us.length = n → ws.length = ks.length → bindArgs (PySem.W.fnOf x qual params body scope .none kV doc pm an cdv ct) ⟨us, ks.zip ws⟩ = pure (ps.zip (g us ws))) :
    KBn K fd ps n ks (fun us ws => g us ws) (fun vs zs => g vs zs) := by
  obtain ⟨oc, od, dV, kV, doc, pm, an, cdv, ct, osl, rfl, lk, hcd, hD, hK⟩ := F.ex
  rcases hD with ⟨_, rfl⟩ | ⟨e, _⟩
  · exact ⟨fun s us ws X l1 l2 => .of_eq (h kV doc pm an cdv ct us ws l1 l2), fun r1 r2 => hrel r1 r2⟩
  · exact absurd rfl e
end
end Pw
set_option Elab.async false
set_option linter.all false
set_option maxRecDepth 100000
set_option maxHeartbeats 4000000
namespace Pw
open PySem PySem.Spec PyProof.Rows L2 LamX
/-! ### a def whose code object is named -/
section
variable {P : Program} {w : World} {K : PySem.W.Frag} {mg : Str → Option Value} {base : Heap} {x qual : Str} {params : Arguments} {body : List Stmt} {scope : Scope} {dvs : List V} {kws : List (Str × V)} {fd : FuncData}
theorem okC {CX : CXT} {N ps : List Str} {k : Nat} {sp : Sp} {d : He.Defn} (F : FunD K x qual params body scope dvs kws (He.fAd K d) fd) (S : FnScope N ps scope) (len : ∀ vs H Q E, sp vs H Q E → vs.length = ps.length)
    (hbody : ∀ (A : Around) (outer : List Env) (s : Shared) (H : Hp) (vs : List V) (Q : VK) (E : XK), Room k (A.deeper (envOfC qual scope s.heap.objs.size (He.fAd K d) (.ref (He.codeOf K d)))) → sp vs H Q E →
      ∃ t, PSs (cxOf CX P w K mg base N qual scope (He.fAd K d) (.ref (He.codeOf K d)) A outer s H E) body t ∧ t { nx := fun _ H' => Q .non H', rt := Q } (start N vs) H) : FnOk P w K mg base CX (k + 1) (He.fAd K d) fd ps sp := by
  obtain ⟨oc, od, dV, kV, doc, pm, an, cdv, ct, osl, rfl, lk, hcd, _, _⟩ := F.ex
  obtain ⟨c, rfl⟩ := He.codeIn_ref hcd
  have e : He.codeOf K d = c := He.codeOf_eq lk rfl
  subst e
  exact fn_of lk hcd S len fun A outer s H vs Q E hr hsp => hbody A outer s H vs Q E hr hsp
end
theorem leastK_map {α β : Type} (kf : β → List Int) (kg : α → List Int) (f : α → β) : ∀ (r : List α) (a : α), (∀ x ∈ a :: r, kf (f x) = kg x) → leastK kf (f a) (r.map f) = f (leastK kg a r)
  | [], _, _ => rfl
  | x :: r, a, h => by
    show leastK kf (if HT.lexLt (kf (f x)) (kf (f a)) = true then f x else f a) (r.map f) = f (leastK kg (if HT.lexLt (kg x) (kg a) = true then x else a) r)
    rw [h x (List.mem_cons_of_mem _ (List.mem_cons_self ..)), h a (List.mem_cons_self ..)]
    by_cases q : HT.lexLt (kg x) (kg a) = true
    · rw [if_pos q, if_pos q]
      exact leastK_map kf kg f r x fun y hy => h y (List.mem_cons_of_mem _ hy)
    · rw [if_neg q, if_neg q]
      refine leastK_map kf kg f r a fun y hy => h y ?_
      rcases List.mem_cons.mp hy with rfl | hy
      · exact List.mem_cons_self ..
      · exact List.mem_cons_of_mem _ (List.mem_cons_of_mem _ hy)
end Pw
set_option Elab.async false
set_option linter.all false
set_option maxRecDepth 100000
set_option maxHeartbeats 4000000
namespace K57
open PySem L2
def top (i : Nat) : Stmt := PySem.Challenge.pw_promptworks_k57_whole_line_however_cut.main.body.getD i (.Pass ⟨0, 0, 0, 0⟩)
abbrev s_jobs_of : Stmt := top 8
abbrev N_jobs_of : List Str := ["task", "rows", "gate", "found", "last", "number", "hour", "work", "arrival", "release"]
theorem sc_jobs_of : FnScope N_jobs_of ["task", "rows", "gate"] (defScope s_jobs_of) := ⟨rfl, rfl, rfl, by decide +kernel, rfl, by decide +kernel, by decide +kernel⟩
abbrev s_Parcel___init__ : Stmt := inClass (top 10) 0
abbrev N_Parcel___init__ : List Str := ["self", "message", "row", "name", "number", "hour", "arrival", "release", "work"]
theorem sc_Parcel___init__ : FnScope N_Parcel___init__ ["self", "message", "row"] (defScope s_Parcel___init__) := ⟨rfl, rfl, rfl, by decide +kernel, rfl, by decide +kernel, by decide +kernel⟩
abbrev s_Parcel_done_ticks : Stmt := inClass (top 10) 1
abbrev N_Parcel_done_ticks : List Str := ["self"]
theorem sc_Parcel_done_ticks : FnScope N_Parcel_done_ticks ["self"] (defScope s_Parcel_done_ticks) := ⟨rfl, rfl, rfl, by decide +kernel, rfl, by decide +kernel, by decide +kernel⟩
abbrev s_parcels_in : Stmt := top 11
abbrev N_parcels_in : List Str := ["bus", "wishes", "gate", "found", "one", "rows", "hour", "name", "row"]
theorem sc_parcels_in : FnScope N_parcels_in ["bus", "wishes", "gate"] (defScope s_parcels_in) := ⟨rfl, rfl, rfl, by decide +kernel, rfl, by decide +kernel, by decide +kernel⟩
abbrev s_first_ready : Stmt := top 12
abbrev N_first_ready : List Str := ["parcels", "hour", "ready", "one"]
theorem sc_first_ready : FnScope N_first_ready ["parcels", "hour"] (defScope s_first_ready) := ⟨rfl, rfl, rfl, by decide +kernel, rfl, by decide +kernel, by decide +kernel⟩
abbrev s_stop_of : Stmt := top 13
abbrev N_stop_of : List Str := ["parcel", "hour", "spoils", "stop", "bad", "tick"]
theorem sc_stop_of : FnScope N_stop_of ["parcel", "hour", "spoils"] (defScope s_stop_of) := ⟨rfl, rfl, rfl, by decide +kernel, rfl, by decide +kernel, by decide +kernel⟩
abbrev s_sent_by : Stmt := top 14
abbrev N_sent_by : List Str := ["parcels", "spoils", "until", "rows", "hour", "one", "stop", "is_sent", "word", "other"]
theorem sc_sent_by : FnScope N_sent_by ["parcels", "spoils", "until"] (defScope s_sent_by) := ⟨rfl, rfl, rfl, by decide +kernel, rfl, by decide +kernel, by decide +kernel⟩
abbrev s_Line___init__ : Stmt := inClass (top 15) 0
abbrev N_Line___init__ : List Str := ["self", "bus", "gate"]
theorem sc_Line___init__ : FnScope N_Line___init__ ["self", "bus", "gate"] (defScope s_Line___init__) := ⟨rfl, rfl, rfl, by decide +kernel, rfl, by decide +kernel, by decide +kernel⟩
abbrev s_Line_now : Stmt := inClass (top 15) 1
abbrev N_Line_now : List Str := ["self"]
theorem sc_Line_now : FnScope N_Line_now ["self"] (defScope s_Line_now) := ⟨rfl, rfl, rfl, by decide +kernel, rfl, by decide +kernel, by decide +kernel⟩
abbrev s_Line_need_hour : Stmt := inClass (top 15) 2
abbrev N_Line_need_hour : List Str := ["self", "hour"]
theorem sc_Line_need_hour : FnScope N_Line_need_hour ["self", "hour"] (defScope s_Line_need_hour) := ⟨rfl, rfl, rfl, by decide +kernel, rfl, by decide +kernel, by decide +kernel⟩
abbrev s_Line_wish : Stmt := inClass (top 15) 3
abbrev N_Line_wish : List Str := ["self", "hour", "message"]
theorem sc_Line_wish : FnScope N_Line_wish ["self", "hour", "message"] (defScope s_Line_wish) := ⟨rfl, rfl, rfl, by decide +kernel, rfl, by decide +kernel, by decide +kernel⟩
abbrev s_Line_spoil : Stmt := inClass (top 15) 4
abbrev N_Line_spoil : List Str := ["self", "tick"]
theorem sc_Line_spoil : FnScope N_Line_spoil ["self", "tick"] (defScope s_Line_spoil) := ⟨rfl, rfl, rfl, by decide +kernel, rfl, by decide +kernel, by decide +kernel⟩
abbrev s_Line_run : Stmt := inClass (top 15) 5
abbrev N_Line_run : List Str := ["self", "hour", "told", "row"]
theorem sc_Line_run : FnScope N_Line_run ["self", "hour"] (defScope s_Line_run) := ⟨rfl, rfl, rfl, by decide +kernel, rfl, by decide +kernel, by decide +kernel⟩
abbrev s_Line_jobs : Stmt := inClass (top 15) 6
abbrev N_Line_jobs : List Str := ["self", "found", "one", "most"]
theorem sc_Line_jobs : FnScope N_Line_jobs ["self"] (defScope s_Line_jobs) := ⟨rfl, rfl, rfl, by decide +kernel, rfl, by decide +kernel, by decide +kernel⟩
abbrev s_Line_sendings : Stmt := inClass (top 15) 7
abbrev N_Line_sendings : List Str := ["self"]
theorem sc_Line_sendings : FnScope N_Line_sendings ["self"] (defScope s_Line_sendings) := ⟨rfl, rfl, rfl, by decide +kernel, rfl, by decide +kernel, by decide +kernel⟩
abbrev s_is_name : Stmt := top 19
abbrev N_is_name : List Str := ["thing", "sign"]
theorem sc_is_name : FnScope N_is_name ["thing"] (defScope s_is_name) := ⟨rfl, rfl, rfl, by decide +kernel, rfl, by decide +kernel, by decide +kernel⟩
abbrev s_is_whole : Stmt := top 20
abbrev N_is_whole : List Str := ["thing", "least"]
theorem sc_is_whole : FnScope N_is_whole ["thing", "least"] (defScope s_is_whole) := ⟨rfl, rfl, rfl, by decide +kernel, rfl, by decide +kernel, by decide +kernel⟩
abbrev s_is_section : Stmt := top 22
abbrev N_is_section : List Str := ["thing", "most", "start", "length", "lock"]
theorem sc_is_section : FnScope N_is_section ["thing", "most"] (defScope s_is_section) := ⟨rfl, rfl, rfl, by decide +kernel, rfl, by decide +kernel, by decide +kernel⟩
abbrev s_lies_within : Stmt := top 23
abbrev N_lies_within : List Str := ["one", "other"]
theorem sc_lies_within : FnScope N_lies_within ["one", "other"] (defScope s_lies_within) := ⟨rfl, rfl, rfl, by decide +kernel, rfl, by decide +kernel, by decide +kernel⟩
abbrev s_go_together : Stmt := top 24
abbrev N_go_together : List Str := ["one", "other"]
theorem sc_go_together : FnScope N_go_together ["one", "other"] (defScope s_go_together) := ⟨rfl, rfl, rfl, by decide +kernel, rfl, by decide +kernel, by decide +kernel⟩
abbrev s_are_sections : Stmt := top 25
abbrev N_are_sections : List Str := ["thing", "most", "at", "other", "one"]
theorem sc_are_sections : FnScope N_are_sections ["thing", "most"] (defScope s_are_sections) := ⟨rfl, rfl, rfl, by decide +kernel, rfl, by decide +kernel, by decide +kernel⟩
abbrev s_bad_part : Stmt := top 26
abbrev N_bad_part : List Str := ["name", "rank", "gap", "most", "due", "wait", "sections", "part", "number"]
theorem sc_bad_part : FnScope N_bad_part ["name", "rank", "gap", "most", "due", "wait", "sections"] (defScope s_bad_part) := ⟨rfl, rfl, rfl, by decide +kernel, rfl, by decide +kernel, by decide +kernel⟩
abbrev s_Message___init__ : Stmt := inClass (top 28) 0
abbrev N_Message___init__ : List Str := ["self", "name", "rank", "gap", "most", "due", "wait", "bad"]
theorem sc_Message___init__ : FnScope N_Message___init__ ["self", "name", "rank", "gap", "most", "due", "wait"] (defScope s_Message___init__) := ⟨rfl, rfl, rfl, by decide +kernel, rfl, by decide +kernel, by decide +kernel⟩
abbrev s_Bus___init__ : Stmt := inClass (top 29) 0
abbrev N_Bus___init__ : List Str := ["self", "messages", "ranks", "one", "rank"]
theorem sc_Bus___init__ : FnScope N_Bus___init__ ["self", "messages"] (defScope s_Bus___init__) := ⟨rfl, rfl, rfl, by decide +kernel, rfl, by decide +kernel, by decide +kernel⟩
abbrev s_Bus_messages : Stmt := inClass (top 29) 1
abbrev N_Bus_messages : List Str := ["self"]
theorem sc_Bus_messages : FnScope N_Bus_messages ["self"] (defScope s_Bus_messages) := ⟨rfl, rfl, rfl, by decide +kernel, rfl, by decide +kernel, by decide +kernel⟩
abbrev s_Bus_message : Stmt := inClass (top 29) 2
abbrev N_Bus_message : List Str := ["self", "name"]
theorem sc_Bus_message : FnScope N_Bus_message ["self", "name"] (defScope s_Bus_message) := ⟨rfl, rfl, rfl, by decide +kernel, rfl, by decide +kernel, by decide +kernel⟩
abbrev s_law_tape : Stmt := top 31
abbrev N_law_tape : List Str := ["script"]
theorem sc_law_tape : FnScope N_law_tape ["script"] (defScope s_law_tape) := ⟨rfl, rfl, rfl, by decide +kernel, rfl, by decide +kernel, by decide +kernel⟩
abbrev s_law_draw : Stmt := top 32
abbrev N_law_draw : List Str := ["tape", "many", "digit", "spot", "cell", "mixed"]
theorem sc_law_draw : FnScope N_law_draw ["tape", "many"] (defScope s_law_draw) := ⟨rfl, rfl, rfl, by decide +kernel, rfl, by decide +kernel, by decide +kernel⟩
abbrev s_law_pick : Stmt := top 33
abbrev N_law_pick : List Str := ["tape", "some"]
theorem sc_law_pick : FnScope N_law_pick ["tape", "some"] (defScope s_law_pick) := ⟨rfl, rfl, rfl, by decide +kernel, rfl, by decide +kernel, by decide +kernel⟩
abbrev s_law_names : Stmt := top 34
abbrev N_law_names : List Str := ["tape", "many", "letters", "k", "base", "spot", "first", "by", "short", "found", "behind"]
theorem sc_law_names : FnScope N_law_names ["tape", "many"] (defScope s_law_names) := ⟨rfl, rfl, rfl, by decide +kernel, rfl, by decide +kernel, by decide +kernel⟩
abbrev s_law_ranked : Stmt := top 35
abbrev N_law_ranked : List Str := ["tape", "things", "left", "found", "level", "one"]
theorem sc_law_ranked : FnScope N_law_ranked ["tape", "things"] (defScope s_law_ranked) := ⟨rfl, rfl, rfl, by decide +kernel, rfl, by decide +kernel, by decide +kernel⟩
abbrev s_law_rows : Stmt := top 36
abbrev N_law_rows : List Str := ["tape", "many", "wide", "late", "some", "called", "long", "far", "between", "owed", "lateness"]
theorem sc_law_rows : FnScope N_law_rows ["tape", "many", "wide", "late"] (defScope s_law_rows) := ⟨rfl, rfl, rfl, by decide +kernel, rfl, by decide +kernel, by decide +kernel⟩
abbrev s_law_bus : Stmt := top 37
abbrev N_law_bus : List Str := ["rows", "some", "row"]
theorem sc_law_bus : FnScope N_law_bus ["rows"] (defScope s_law_bus) := ⟨rfl, rfl, rfl, by decide +kernel, rfl, by decide +kernel, by decide +kernel⟩
abbrev s_law_wishes : Stmt := top 38
abbrev N_law_wishes : List Str := ["tape", "rows", "many", "far", "found", "near", "k", "moment"]
theorem sc_law_wishes : FnScope N_law_wishes ["tape", "rows", "many", "far"] (defScope s_law_wishes) := ⟨rfl, rfl, rfl, by decide +kernel, rfl, by decide +kernel, by decide +kernel⟩
abbrev s_law_told_to : Stmt := top 39
abbrev N_law_told_to : List Str := ["tape", "line", "things", "left", "one"]
theorem sc_law_told_to : FnScope N_law_told_to ["tape", "line", "things"] (defScope s_law_told_to) := ⟨rfl, rfl, rfl, by decide +kernel, rfl, by decide +kernel, by decide +kernel⟩
abbrev s_law_goes_on : Stmt := top 40
abbrev N_law_goes_on : List Str := ["elder", "later", "last"]
theorem sc_law_goes_on : FnScope N_law_goes_on ["elder", "later"] (defScope s_law_goes_on) := ⟨rfl, rfl, rfl, by decide +kernel, rfl, by decide +kernel, by decide +kernel⟩
abbrev s_law : Stmt := top 41
abbrev N_law : List Str := ["script", "tape", "turn", "rows", "far", "moment", "things", "shut", "before", "late", "wire", "hours", "told", "once", "found", "called", "k", "one"]
theorem sc_law : FnScope N_law ["script"] (defScope s_law) := ⟨rfl, rfl, rfl, by decide +kernel, rfl, by decide +kernel, by decide +kernel⟩
/-- what the top has written -/
structure Txt (K : PySem.W.Frag) (mg : Str → Option Value) : Prop where
  g_BadTask : mg "BadTask" = some (.ref (He.ga K "BadTask"))
  g_Bus : mg "Bus" = some (.ref (He.ga K "Bus"))
  g_Line : mg "Line" = some (.ref (He.ga K "Line"))
  g_Message : mg "Message" = some (.ref (He.ga K "Message"))
  g_NoTask : mg "NoTask" = some (.ref (He.ga K "NoTask"))
  g_Parcel : mg "Parcel" = some (.ref (He.ga K "Parcel"))
  g_Past : mg "Past" = some (.ref (He.ga K "Past"))
  g_Shared : mg "Shared" = some (.ref (He.ga K "Shared"))
  g_Twice : mg "Twice" = some (.ref (He.ga K "Twice"))
  g__law_bus : mg "_law_bus" = some (.ref (He.ga K "_law_bus"))
  g__law_draw : mg "_law_draw" = some (.ref (He.ga K "_law_draw"))
  g__law_goes_on : mg "_law_goes_on" = some (.ref (He.ga K "_law_goes_on"))
  g__law_names : mg "_law_names" = some (.ref (He.ga K "_law_names"))
  g__law_pick : mg "_law_pick" = some (.ref (He.ga K "_law_pick"))
  g__law_ranked : mg "_law_ranked" = some (.ref (He.ga K "_law_ranked"))
  g__law_rows : mg "_law_rows" = some (.ref (He.ga K "_law_rows"))
  g__law_tape : mg "_law_tape" = some (.ref (He.ga K "_law_tape"))
  g__law_told_to : mg "_law_told_to" = some (.ref (He.ga K "_law_told_to"))
  g__law_wishes : mg "_law_wishes" = some (.ref (He.ga K "_law_wishes"))
  g_are_sections : mg "are_sections" = some (.ref (He.ga K "are_sections"))
  g_bad_part : mg "bad_part" = some (.ref (He.ga K "bad_part"))
  g_first_ready : mg "first_ready" = some (.ref (He.ga K "first_ready"))
  g_go_together : mg "go_together" = some (.ref (He.ga K "go_together"))
  g_is_name : mg "is_name" = some (.ref (He.ga K "is_name"))
  g_is_section : mg "is_section" = some (.ref (He.ga K "is_section"))
  g_is_whole : mg "is_whole" = some (.ref (He.ga K "is_whole"))
  g_jobs_of : mg "jobs_of" = some (.ref (He.ga K "jobs_of"))
  g_lies_within : mg "lies_within" = some (.ref (He.ga K "lies_within"))
  g_parcels_in : mg "parcels_in" = some (.ref (He.ga K "parcels_in"))
  g_sent_by : mg "sent_by" = some (.ref (He.ga K "sent_by"))
  g_stop_of : mg "stop_of" = some (.ref (He.ga K "stop_of"))
  k__law_bus : PySem.W.keepIn K (.ref (He.ga K "_law_bus")) = true
  k__law_draw : PySem.W.keepIn K (.ref (He.ga K "_law_draw")) = true
  k__law_goes_on : PySem.W.keepIn K (.ref (He.ga K "_law_goes_on")) = true
  k__law_names : PySem.W.keepIn K (.ref (He.ga K "_law_names")) = true
  k__law_pick : PySem.W.keepIn K (.ref (He.ga K "_law_pick")) = true
  k__law_ranked : PySem.W.keepIn K (.ref (He.ga K "_law_ranked")) = true
  k__law_rows : PySem.W.keepIn K (.ref (He.ga K "_law_rows")) = true
  k__law_tape : PySem.W.keepIn K (.ref (He.ga K "_law_tape")) = true
  k__law_told_to : PySem.W.keepIn K (.ref (He.ga K "_law_told_to")) = true
  k__law_wishes : PySem.W.keepIn K (.ref (He.ga K "_law_wishes")) = true
  k_are_sections : PySem.W.keepIn K (.ref (He.ga K "are_sections")) = true
  k_bad_part : PySem.W.keepIn K (.ref (He.ga K "bad_part")) = true
  k_first_ready : PySem.W.keepIn K (.ref (He.ga K "first_ready")) = true
  k_go_together : PySem.W.keepIn K (.ref (He.ga K "go_together")) = true
  k_is_name : PySem.W.keepIn K (.ref (He.ga K "is_name")) = true
  k_is_section : PySem.W.keepIn K (.ref (He.ga K "is_section")) = true
  k_is_whole : PySem.W.keepIn K (.ref (He.ga K "is_whole")) = true
  k_jobs_of : PySem.W.keepIn K (.ref (He.ga K "jobs_of")) = true
  k_lies_within : PySem.W.keepIn K (.ref (He.ga K "lies_within")) = true
  k_parcels_in : PySem.W.keepIn K (.ref (He.ga K "parcels_in")) = true
  k_sent_by : PySem.W.keepIn K (.ref (He.ga K "sent_by")) = true
  k_stop_of : PySem.W.keepIn K (.ref (He.ga K "stop_of")) = true
  b_all : mg "all" = none
  b_bool : mg "bool" = none
  b_enumerate : mg "enumerate" = none
  b_int : mg "int" = none
  b_isinstance : mg "isinstance" = none
  b_len : mg "len" = none
  b_list : mg "list" = none
  b_max : mg "max" = none
  b_min : mg "min" = none
  b_range : mg "range" = none
  b_sorted : mg "sorted" = none
  b_str : mg "str" = none
  b_tuple : mg "tuple" = none
  c_LETTERS : ∃ t, mg "LETTERS" = some (.str "abcdefghijklmnopqrstuvwxyz" t)
  c_LONGEST_NAME : ∃ t, mg "LONGEST_NAME" = some (.int 12 t)
  cl_Parcel : Cls K (He.ga K "Parcel")
  na_Parcel_kind : NoAttr K (He.ga K "Parcel") "kind"
  na_Parcel_place : NoAttr K (He.ga K "Parcel") "place"
  na_Parcel_arrived : NoAttr K (He.ga K "Parcel") "arrived"
  na_Parcel_freed : NoAttr K (He.ga K "Parcel") "freed"
  na_Parcel_ended : NoAttr K (He.ga K "Parcel") "ended"
  mk_Parcel : Mk K (He.ga K "Parcel") (He.ma K (He.ga K "Parcel") "__init__")
  m_Parcel_done_ticks : Meth K (He.ga K "Parcel") "done_ticks" (He.ma K (He.ga K "Parcel") "done_ticks")
  cl_Line : Cls K (He.ga K "Line")
  na_Line_wire : NoAttr K (He.ga K "Line") "wire"
  na_Line_gated : NoAttr K (He.ga K "Line") "gated"
  na_Line_asked_for : NoAttr K (He.ga K "Line") "asked_for"
  na_Line_bad_ticks : NoAttr K (He.ga K "Line") "bad_ticks"
  na_Line_hour : NoAttr K (He.ga K "Line") "hour"
  na_Line_moving : NoAttr K (He.ga K "Line") "moving"
  na_Line_rows : NoAttr K (He.ga K "Line") "rows"
  mk_Line : Mk K (He.ga K "Line") (He.ma K (He.ga K "Line") "__init__")
  m_Line_now : Meth K (He.ga K "Line") "now" (He.ma K (He.ga K "Line") "now")
  m_Line_need_hour : Meth K (He.ga K "Line") "need_hour" (He.ma K (He.ga K "Line") "need_hour")
  m_Line_wish : Meth K (He.ga K "Line") "wish" (He.ma K (He.ga K "Line") "wish")
  m_Line_spoil : Meth K (He.ga K "Line") "spoil" (He.ma K (He.ga K "Line") "spoil")
  m_Line_run : Meth K (He.ga K "Line") "run" (He.ma K (He.ga K "Line") "run")
  m_Line_jobs : Meth K (He.ga K "Line") "jobs" (He.ma K (He.ga K "Line") "jobs")
  m_Line_sendings : Meth K (He.ga K "Line") "sendings" (He.ma K (He.ga K "Line") "sendings")
  cl_Message : Cls K (He.ga K "Message")
  na_Message_name : NoAttr K (He.ga K "Message") "name"
  na_Message_rank : NoAttr K (He.ga K "Message") "rank"
  na_Message_gap : NoAttr K (He.ga K "Message") "gap"
  na_Message_most : NoAttr K (He.ga K "Message") "most"
  na_Message_due : NoAttr K (He.ga K "Message") "due"
  na_Message_wait : NoAttr K (He.ga K "Message") "wait"
  mk_Message : Mk K (He.ga K "Message") (He.ma K (He.ga K "Message") "__init__")
  cl_Bus : Cls K (He.ga K "Bus")
  na_Bus_by_name : NoAttr K (He.ga K "Bus") "by_name"
  na_Bus_by_rank : NoAttr K (He.ga K "Bus") "by_rank"
  mk_Bus : Mk K (He.ga K "Bus") (He.ma K (He.ga K "Bus") "__init__")
  m_Bus_messages : Meth K (He.ga K "Bus") "messages" (He.ma K (He.ga K "Bus") "messages")
  m_Bus_message : Meth K (He.ga K "Bus") "message" (He.ma K (He.ga K "Bus") "message")
  f_jobs_of : ∃ fd, FunD K "jobs_of" "jobs_of" (defArgs s_jobs_of) (defBody s_jobs_of) (defScope s_jobs_of) [] [] (He.ga K "jobs_of") fd
  f_Parcel___init__ : ∃ fd, FunD K "__init__" "Parcel.__init__" (defArgs s_Parcel___init__) (defBody s_Parcel___init__) (defScope s_Parcel___init__) [] [] (He.ma K (He.ga K "Parcel") "__init__") fd
  f_Parcel_done_ticks : ∃ fd, FunD K "done_ticks" "Parcel.done_ticks" (defArgs s_Parcel_done_ticks) (defBody s_Parcel_done_ticks) (defScope s_Parcel_done_ticks) [] [] (He.ma K (He.ga K "Parcel") "done_ticks") fd
  f_parcels_in : ∃ fd, FunD K "parcels_in" "parcels_in" (defArgs s_parcels_in) (defBody s_parcels_in) (defScope s_parcels_in) [] [] (He.ga K "parcels_in") fd
  f_first_ready : ∃ fd, FunD K "first_ready" "first_ready" (defArgs s_first_ready) (defBody s_first_ready) (defScope s_first_ready) [] [] (He.ga K "first_ready") fd
  f_stop_of : ∃ fd, FunD K "stop_of" "stop_of" (defArgs s_stop_of) (defBody s_stop_of) (defScope s_stop_of) [] [] (He.ga K "stop_of") fd
  f_sent_by : ∃ fd, FunD K "sent_by" "sent_by" (defArgs s_sent_by) (defBody s_sent_by) (defScope s_sent_by) [] [] (He.ga K "sent_by") fd
  f_Line___init__ : ∃ fd, FunD K "__init__" "Line.__init__" (defArgs s_Line___init__) (defBody s_Line___init__) (defScope s_Line___init__) [] [("gate", V.bl true)] (He.ma K (He.ga K "Line") "__init__") fd
  f_Line_now : ∃ fd, FunD K "now" "Line.now" (defArgs s_Line_now) (defBody s_Line_now) (defScope s_Line_now) [] [] (He.ma K (He.ga K "Line") "now") fd
  f_Line_need_hour : ∃ fd, FunD K "need_hour" "Line.need_hour" (defArgs s_Line_need_hour) (defBody s_Line_need_hour) (defScope s_Line_need_hour) [] [] (He.ma K (He.ga K "Line") "need_hour") fd
  f_Line_wish : ∃ fd, FunD K "wish" "Line.wish" (defArgs s_Line_wish) (defBody s_Line_wish) (defScope s_Line_wish) [] [] (He.ma K (He.ga K "Line") "wish") fd
  f_Line_spoil : ∃ fd, FunD K "spoil" "Line.spoil" (defArgs s_Line_spoil) (defBody s_Line_spoil) (defScope s_Line_spoil) [] [] (He.ma K (He.ga K "Line") "spoil") fd
  f_Line_run : ∃ fd, FunD K "run" "Line.run" (defArgs s_Line_run) (defBody s_Line_run) (defScope s_Line_run) [] [] (He.ma K (He.ga K "Line") "run") fd
  f_Line_jobs : ∃ fd, FunD K "jobs" "Line.jobs" (defArgs s_Line_jobs) (defBody s_Line_jobs) (defScope s_Line_jobs) [] [] (He.ma K (He.ga K "Line") "jobs") fd
  f_Line_sendings : ∃ fd, FunD K "sendings" "Line.sendings" (defArgs s_Line_sendings) (defBody s_Line_sendings) (defScope s_Line_sendings) [] [] (He.ma K (He.ga K "Line") "sendings") fd
  f_is_name : ∃ fd, FunD K "is_name" "is_name" (defArgs s_is_name) (defBody s_is_name) (defScope s_is_name) [] [] (He.ga K "is_name") fd
  f_is_whole : ∃ fd, FunD K "is_whole" "is_whole" (defArgs s_is_whole) (defBody s_is_whole) (defScope s_is_whole) [] [("least", V.int 0)] (He.ga K "is_whole") fd
  f_is_section : ∃ fd, FunD K "is_section" "is_section" (defArgs s_is_section) (defBody s_is_section) (defScope s_is_section) [] [] (He.ga K "is_section") fd
  f_lies_within : ∃ fd, FunD K "lies_within" "lies_within" (defArgs s_lies_within) (defBody s_lies_within) (defScope s_lies_within) [] [] (He.ga K "lies_within") fd
  f_go_together : ∃ fd, FunD K "go_together" "go_together" (defArgs s_go_together) (defBody s_go_together) (defScope s_go_together) [] [] (He.ga K "go_together") fd
  f_are_sections : ∃ fd, FunD K "are_sections" "are_sections" (defArgs s_are_sections) (defBody s_are_sections) (defScope s_are_sections) [] [] (He.ga K "are_sections") fd
  f_bad_part : ∃ fd, FunD K "bad_part" "bad_part" (defArgs s_bad_part) (defBody s_bad_part) (defScope s_bad_part) [] [] (He.ga K "bad_part") fd
  f_Message___init__ : ∃ fd, FunD K "__init__" "Message.__init__" (defArgs s_Message___init__) (defBody s_Message___init__) (defScope s_Message___init__) [] [("due", V.non), ("wait", V.int 0)] (He.ma K (He.ga K "Message") "__init__") fd
  f_Bus___init__ : ∃ fd, FunD K "__init__" "Bus.__init__" (defArgs s_Bus___init__) (defBody s_Bus___init__) (defScope s_Bus___init__) [V.ref (He.dflAt ("Bus", some "__init__") 0 K)] [] (He.ma K (He.ga K "Bus") "__init__") fd
  f_Bus_messages : ∃ fd, FunD K "messages" "Bus.messages" (defArgs s_Bus_messages) (defBody s_Bus_messages) (defScope s_Bus_messages) [] [] (He.ma K (He.ga K "Bus") "messages") fd
  f_Bus_message : ∃ fd, FunD K "message" "Bus.message" (defArgs s_Bus_message) (defBody s_Bus_message) (defScope s_Bus_message) [] [] (He.ma K (He.ga K "Bus") "message") fd
  f_law_tape : ∃ fd, FunD K "_law_tape" "_law_tape" (defArgs s_law_tape) (defBody s_law_tape) (defScope s_law_tape) [] [] (He.ga K "_law_tape") fd
  f_law_draw : ∃ fd, FunD K "_law_draw" "_law_draw" (defArgs s_law_draw) (defBody s_law_draw) (defScope s_law_draw) [] [] (He.ga K "_law_draw") fd
  f_law_pick : ∃ fd, FunD K "_law_pick" "_law_pick" (defArgs s_law_pick) (defBody s_law_pick) (defScope s_law_pick) [] [] (He.ga K "_law_pick") fd
  f_law_names : ∃ fd, FunD K "_law_names" "_law_names" (defArgs s_law_names) (defBody s_law_names) (defScope s_law_names) [] [] (He.ga K "_law_names") fd
  f_law_ranked : ∃ fd, FunD K "_law_ranked" "_law_ranked" (defArgs s_law_ranked) (defBody s_law_ranked) (defScope s_law_ranked) [] [] (He.ga K "_law_ranked") fd
  f_law_rows : ∃ fd, FunD K "_law_rows" "_law_rows" (defArgs s_law_rows) (defBody s_law_rows) (defScope s_law_rows) [] [] (He.ga K "_law_rows") fd
  f_law_bus : ∃ fd, FunD K "_law_bus" "_law_bus" (defArgs s_law_bus) (defBody s_law_bus) (defScope s_law_bus) [] [] (He.ga K "_law_bus") fd
  f_law_wishes : ∃ fd, FunD K "_law_wishes" "_law_wishes" (defArgs s_law_wishes) (defBody s_law_wishes) (defScope s_law_wishes) [] [] (He.ga K "_law_wishes") fd
  f_law_told_to : ∃ fd, FunD K "_law_told_to" "_law_told_to" (defArgs s_law_told_to) (defBody s_law_told_to) (defScope s_law_told_to) [] [] (He.ga K "_law_told_to") fd
  f_law_goes_on : ∃ fd, FunD K "_law_goes_on" "_law_goes_on" (defArgs s_law_goes_on) (defBody s_law_goes_on) (defScope s_law_goes_on) [] [] (He.ga K "_law_goes_on") fd
  f_law : ∃ fd, FunD K "law" "law" (defArgs s_law) (defBody s_law) (defScope s_law) [] [] (He.ga K "law") fd
def d_jobs_of : He.DefD := ⟨("jobs_of", none), "jobs_of", "jobs_of", defArgs s_jobs_of, defBody s_jobs_of, defScope s_jobs_of, [], []⟩
def d_Parcel___init__ : He.DefD := ⟨("Parcel", some "__init__"), "__init__", "Parcel.__init__", defArgs s_Parcel___init__, defBody s_Parcel___init__, defScope s_Parcel___init__, [], []⟩
def d_Parcel_done_ticks : He.DefD := ⟨("Parcel", some "done_ticks"), "done_ticks", "Parcel.done_ticks", defArgs s_Parcel_done_ticks, defBody s_Parcel_done_ticks, defScope s_Parcel_done_ticks, [], []⟩
def d_parcels_in : He.DefD := ⟨("parcels_in", none), "parcels_in", "parcels_in", defArgs s_parcels_in, defBody s_parcels_in, defScope s_parcels_in, [], []⟩
def d_first_ready : He.DefD := ⟨("first_ready", none), "first_ready", "first_ready", defArgs s_first_ready, defBody s_first_ready, defScope s_first_ready, [], []⟩
def d_stop_of : He.DefD := ⟨("stop_of", none), "stop_of", "stop_of", defArgs s_stop_of, defBody s_stop_of, defScope s_stop_of, [], []⟩
def d_sent_by : He.DefD := ⟨("sent_by", none), "sent_by", "sent_by", defArgs s_sent_by, defBody s_sent_by, defScope s_sent_by, [], []⟩
def d_Line___init__ : He.DefD := ⟨("Line", some "__init__"), "__init__", "Line.__init__", defArgs s_Line___init__, defBody s_Line___init__, defScope s_Line___init__, [], [("gate", .bl true)]⟩
def d_Line_now : He.DefD := ⟨("Line", some "now"), "now", "Line.now", defArgs s_Line_now, defBody s_Line_now, defScope s_Line_now, [], []⟩
def d_Line_need_hour : He.DefD := ⟨("Line", some "need_hour"), "need_hour", "Line.need_hour", defArgs s_Line_need_hour, defBody s_Line_need_hour, defScope s_Line_need_hour, [], []⟩
def d_Line_wish : He.DefD := ⟨("Line", some "wish"), "wish", "Line.wish", defArgs s_Line_wish, defBody s_Line_wish, defScope s_Line_wish, [], []⟩
def d_Line_spoil : He.DefD := ⟨("Line", some "spoil"), "spoil", "Line.spoil", defArgs s_Line_spoil, defBody s_Line_spoil, defScope s_Line_spoil, [], []⟩
def d_Line_run : He.DefD := ⟨("Line", some "run"), "run", "Line.run", defArgs s_Line_run, defBody s_Line_run, defScope s_Line_run, [], []⟩
def d_Line_jobs : He.DefD := ⟨("Line", some "jobs"), "jobs", "Line.jobs", defArgs s_Line_jobs, defBody s_Line_jobs, defScope s_Line_jobs, [], []⟩
def d_Line_sendings : He.DefD := ⟨("Line", some "sendings"), "sendings", "Line.sendings", defArgs s_Line_sendings, defBody s_Line_sendings, defScope s_Line_sendings, [], []⟩
def d_is_name : He.DefD := ⟨("is_name", none), "is_name", "is_name", defArgs s_is_name, defBody s_is_name, defScope s_is_name, [], []⟩
def d_is_whole : He.DefD := ⟨("is_whole", none), "is_whole", "is_whole", defArgs s_is_whole, defBody s_is_whole, defScope s_is_whole, [], [("least", .int 0)]⟩
def d_is_section : He.DefD := ⟨("is_section", none), "is_section", "is_section", defArgs s_is_section, defBody s_is_section, defScope s_is_section, [], []⟩
def d_lies_within : He.DefD := ⟨("lies_within", none), "lies_within", "lies_within", defArgs s_lies_within, defBody s_lies_within, defScope s_lies_within, [], []⟩
def d_go_together : He.DefD := ⟨("go_together", none), "go_together", "go_together", defArgs s_go_together, defBody s_go_together, defScope s_go_together, [], []⟩
def d_are_sections : He.DefD := ⟨("are_sections", none), "are_sections", "are_sections", defArgs s_are_sections, defBody s_are_sections, defScope s_are_sections, [], []⟩
def d_bad_part : He.DefD := ⟨("bad_part", none), "bad_part", "bad_part", defArgs s_bad_part, defBody s_bad_part, defScope s_bad_part, [], []⟩
def d_Message___init__ : He.DefD := ⟨("Message", some "__init__"), "__init__", "Message.__init__", defArgs s_Message___init__, defBody s_Message___init__, defScope s_Message___init__, [], [("due", .non), ("wait", .int 0)]⟩
def d_Bus___init__ : He.DefD := ⟨("Bus", some "__init__"), "__init__", "Bus.__init__", defArgs s_Bus___init__, defBody s_Bus___init__, defScope s_Bus___init__, [.adr (He.dflAt ("Bus", some "__init__") 0)], []⟩
def d_Bus_messages : He.DefD := ⟨("Bus", some "messages"), "messages", "Bus.messages", defArgs s_Bus_messages, defBody s_Bus_messages, defScope s_Bus_messages, [], []⟩
def d_Bus_message : He.DefD := ⟨("Bus", some "message"), "message", "Bus.message", defArgs s_Bus_message, defBody s_Bus_message, defScope s_Bus_message, [], []⟩
def d_law_tape : He.DefD := ⟨("_law_tape", none), "_law_tape", "_law_tape", defArgs s_law_tape, defBody s_law_tape, defScope s_law_tape, [], []⟩
def d_law_draw : He.DefD := ⟨("_law_draw", none), "_law_draw", "_law_draw", defArgs s_law_draw, defBody s_law_draw, defScope s_law_draw, [], []⟩
def d_law_pick : He.DefD := ⟨("_law_pick", none), "_law_pick", "_law_pick", defArgs s_law_pick, defBody s_law_pick, defScope s_law_pick, [], []⟩
def d_law_names : He.DefD := ⟨("_law_names", none), "_law_names", "_law_names", defArgs s_law_names, defBody s_law_names, defScope s_law_names, [], []⟩
def d_law_ranked : He.DefD := ⟨("_law_ranked", none), "_law_ranked", "_law_ranked", defArgs s_law_ranked, defBody s_law_ranked, defScope s_law_ranked, [], []⟩
def d_law_rows : He.DefD := ⟨("_law_rows", none), "_law_rows", "_law_rows", defArgs s_law_rows, defBody s_law_rows, defScope s_law_rows, [], []⟩
def d_law_bus : He.DefD := ⟨("_law_bus", none), "_law_bus", "_law_bus", defArgs s_law_bus, defBody s_law_bus, defScope s_law_bus, [], []⟩
def d_law_wishes : He.DefD := ⟨("_law_wishes", none), "_law_wishes", "_law_wishes", defArgs s_law_wishes, defBody s_law_wishes, defScope s_law_wishes, [], []⟩
def d_law_told_to : He.DefD := ⟨("_law_told_to", none), "_law_told_to", "_law_told_to", defArgs s_law_told_to, defBody s_law_told_to, defScope s_law_told_to, [], []⟩
def d_law_goes_on : He.DefD := ⟨("_law_goes_on", none), "_law_goes_on", "_law_goes_on", defArgs s_law_goes_on, defBody s_law_goes_on, defScope s_law_goes_on, [], []⟩
def d_law : He.DefD := ⟨("law", none), "law", "law", defArgs s_law, defBody s_law, defScope s_law, [], []⟩
def fn : List He.DefD := [d_jobs_of, d_Parcel___init__, d_Parcel_done_ticks, d_parcels_in, d_first_ready, d_stop_of, d_sent_by, d_Line___init__, d_Line_now, d_Line_need_hour, d_Line_wish, d_Line_spoil, d_Line_run, d_Line_jobs, d_Line_sendings, d_is_name, d_is_whole, d_is_section, d_lies_within, d_go_together, d_are_sections, d_bad_part, d_Message___init__, d_Bus___init__, d_Bus_messages, d_Bus_message, d_law_tape, d_law_draw, d_law_pick, d_law_names, d_law_ranked, d_law_rows, d_law_bus, d_law_wishes, d_law_told_to, d_law_goes_on, d_law]
def fa : List He.Fa := [.glo "BadTask", .glo "Bus", .glo "Line", .glo "Message", .glo "NoTask", .glo "Parcel", .glo "Past", .glo "Shared", .glo "Twice", .glo "_law_bus", .glo "_law_draw", .glo "_law_goes_on", .glo "_law_names", .glo "_law_pick", .glo "_law_ranked", .glo "_law_rows", .glo "_law_tape", .glo "_law_told_to", .glo "_law_wishes", .glo "are_sections", .glo "bad_part", .glo "first_ready", .glo "go_together", .glo "is_name", .glo "is_section", .glo "is_whole", .glo "jobs_of", .glo "lies_within", .glo "parcels_in", .glo "sent_by", .glo "stop_of", .keep "_law_bus", .keep "_law_draw", .keep "_law_goes_on", .keep "_law_names", .keep "_law_pick", .keep "_law_ranked", .keep "_law_rows", .keep "_law_tape", .keep "_law_told_to", .keep "_law_wishes", .keep "are_sections", .keep "bad_part", .keep "first_ready", .keep "go_together", .keep "is_name", .keep "is_section", .keep "is_whole", .keep "jobs_of", .keep "lies_within", .keep "parcels_in", .keep "sent_by", .keep "stop_of", .free "all", .free "bool", .free "enumerate", .free "int", .free "isinstance", .free "len", .free "list", .free "max", .free "min", .free "range", .free "sorted", .free "str", .free "tuple", .str "LETTERS" "abcdefghijklmnopqrstuvwxyz", .int "LONGEST_NAME" 12, .cls "Parcel", .noat "Parcel" "kind", .noat "Parcel" "place", .noat "Parcel" "arrived", .noat "Parcel" "freed", .noat "Parcel" "ended", .mkr "Parcel", .meth "Parcel" "done_ticks", .cls "Line", .noat "Line" "wire", .noat "Line" "gated", .noat "Line" "asked_for", .noat "Line" "bad_ticks", .noat "Line" "hour", .noat "Line" "moving", .noat "Line" "rows", .mkr "Line", .meth "Line" "now", .meth "Line" "need_hour", .meth "Line" "wish", .meth "Line" "spoil", .meth "Line" "run", .meth "Line" "jobs", .meth "Line" "sendings", .cls "Message", .noat "Message" "name", .noat "Message" "rank", .noat "Message" "gap", .noat "Message" "most", .noat "Message" "due", .noat "Message" "wait", .mkr "Message", .cls "Bus", .noat "Bus" "by_name", .noat "Bus" "by_rank", .mkr "Bus", .meth "Bus" "messages", .meth "Bus" "message", .glo "law"]
theorem txt_of {K : PySem.W.Frag} {h : Heap} {mg : Str → Option Value} (X : K.In h) (G : h.Ns mainGlobals mg) (c : He.SaysD fa fn K) : Txt K mg :=
  ⟨He.glo_ok X G (c.fact 0 (f := .glo "BadTask") rfl),
   He.glo_ok X G (c.fact 1 (f := .glo "Bus") rfl),
   He.glo_ok X G (c.fact 2 (f := .glo "Line") rfl),
   He.glo_ok X G (c.fact 3 (f := .glo "Message") rfl),
   He.glo_ok X G (c.fact 4 (f := .glo "NoTask") rfl),
   He.glo_ok X G (c.fact 5 (f := .glo "Parcel") rfl),
   He.glo_ok X G (c.fact 6 (f := .glo "Past") rfl),
   He.glo_ok X G (c.fact 7 (f := .glo "Shared") rfl),
   He.glo_ok X G (c.fact 8 (f := .glo "Twice") rfl),
   He.glo_ok X G (c.fact 9 (f := .glo "_law_bus") rfl),
   He.glo_ok X G (c.fact 10 (f := .glo "_law_draw") rfl),
   He.glo_ok X G (c.fact 11 (f := .glo "_law_goes_on") rfl),
   He.glo_ok X G (c.fact 12 (f := .glo "_law_names") rfl),
   He.glo_ok X G (c.fact 13 (f := .glo "_law_pick") rfl),
   He.glo_ok X G (c.fact 14 (f := .glo "_law_ranked") rfl),
   He.glo_ok X G (c.fact 15 (f := .glo "_law_rows") rfl),
   He.glo_ok X G (c.fact 16 (f := .glo "_law_tape") rfl),
   He.glo_ok X G (c.fact 17 (f := .glo "_law_told_to") rfl),
   He.glo_ok X G (c.fact 18 (f := .glo "_law_wishes") rfl),
   He.glo_ok X G (c.fact 19 (f := .glo "are_sections") rfl),
   He.glo_ok X G (c.fact 20 (f := .glo "bad_part") rfl),
   He.glo_ok X G (c.fact 21 (f := .glo "first_ready") rfl),
   He.glo_ok X G (c.fact 22 (f := .glo "go_together") rfl),
   He.glo_ok X G (c.fact 23 (f := .glo "is_name") rfl),
   He.glo_ok X G (c.fact 24 (f := .glo "is_section") rfl),
   He.glo_ok X G (c.fact 25 (f := .glo "is_whole") rfl),
   He.glo_ok X G (c.fact 26 (f := .glo "jobs_of") rfl),
   He.glo_ok X G (c.fact 27 (f := .glo "lies_within") rfl),
   He.glo_ok X G (c.fact 28 (f := .glo "parcels_in") rfl),
   He.glo_ok X G (c.fact 29 (f := .glo "sent_by") rfl),
   He.glo_ok X G (c.fact 30 (f := .glo "stop_of") rfl),
   He.keep_ok (c.fact 31 (f := .keep "_law_bus") rfl),
   He.keep_ok (c.fact 32 (f := .keep "_law_draw") rfl),
   He.keep_ok (c.fact 33 (f := .keep "_law_goes_on") rfl),
   He.keep_ok (c.fact 34 (f := .keep "_law_names") rfl),
   He.keep_ok (c.fact 35 (f := .keep "_law_pick") rfl),
   He.keep_ok (c.fact 36 (f := .keep "_law_ranked") rfl),
   He.keep_ok (c.fact 37 (f := .keep "_law_rows") rfl),
   He.keep_ok (c.fact 38 (f := .keep "_law_tape") rfl),
   He.keep_ok (c.fact 39 (f := .keep "_law_told_to") rfl),
   He.keep_ok (c.fact 40 (f := .keep "_law_wishes") rfl),
   He.keep_ok (c.fact 41 (f := .keep "are_sections") rfl),
   He.keep_ok (c.fact 42 (f := .keep "bad_part") rfl),
   He.keep_ok (c.fact 43 (f := .keep "first_ready") rfl),
   He.keep_ok (c.fact 44 (f := .keep "go_together") rfl),
   He.keep_ok (c.fact 45 (f := .keep "is_name") rfl),
   He.keep_ok (c.fact 46 (f := .keep "is_section") rfl),
   He.keep_ok (c.fact 47 (f := .keep "is_whole") rfl),
   He.keep_ok (c.fact 48 (f := .keep "jobs_of") rfl),
   He.keep_ok (c.fact 49 (f := .keep "lies_within") rfl),
   He.keep_ok (c.fact 50 (f := .keep "parcels_in") rfl),
   He.keep_ok (c.fact 51 (f := .keep "sent_by") rfl),
   He.keep_ok (c.fact 52 (f := .keep "stop_of") rfl),
   He.free_ok X G (c.fact 53 (f := .free "all") rfl),
   He.free_ok X G (c.fact 54 (f := .free "bool") rfl),
   He.free_ok X G (c.fact 55 (f := .free "enumerate") rfl),
   He.free_ok X G (c.fact 56 (f := .free "int") rfl),
   He.free_ok X G (c.fact 57 (f := .free "isinstance") rfl),
   He.free_ok X G (c.fact 58 (f := .free "len") rfl),
   He.free_ok X G (c.fact 59 (f := .free "list") rfl),
   He.free_ok X G (c.fact 60 (f := .free "max") rfl),
   He.free_ok X G (c.fact 61 (f := .free "min") rfl),
   He.free_ok X G (c.fact 62 (f := .free "range") rfl),
   He.free_ok X G (c.fact 63 (f := .free "sorted") rfl),
   He.free_ok X G (c.fact 64 (f := .free "str") rfl),
   He.free_ok X G (c.fact 65 (f := .free "tuple") rfl),
   He.str_ok X G (c.fact 66 (f := .str "LETTERS" "abcdefghijklmnopqrstuvwxyz") rfl),
   He.int_ok X G (c.fact 67 (f := .int "LONGEST_NAME" 12) rfl),
   He.cls_ok (c.fact 68 (f := .cls "Parcel") rfl),
   He.noat_ok (c.fact 69 (f := .noat "Parcel" "kind") rfl),
   He.noat_ok (c.fact 70 (f := .noat "Parcel" "place") rfl),
   He.noat_ok (c.fact 71 (f := .noat "Parcel" "arrived") rfl),
   He.noat_ok (c.fact 72 (f := .noat "Parcel" "freed") rfl),
   He.noat_ok (c.fact 73 (f := .noat "Parcel" "ended") rfl),
   He.mkr_ok (c.fact 74 (f := .mkr "Parcel") rfl),
   He.meth_ok (c.fact 75 (f := .meth "Parcel" "done_ticks") rfl),
   He.cls_ok (c.fact 76 (f := .cls "Line") rfl),
   He.noat_ok (c.fact 77 (f := .noat "Line" "wire") rfl),
   He.noat_ok (c.fact 78 (f := .noat "Line" "gated") rfl),
   He.noat_ok (c.fact 79 (f := .noat "Line" "asked_for") rfl),
   He.noat_ok (c.fact 80 (f := .noat "Line" "bad_ticks") rfl),
   He.noat_ok (c.fact 81 (f := .noat "Line" "hour") rfl),
   He.noat_ok (c.fact 82 (f := .noat "Line" "moving") rfl),
   He.noat_ok (c.fact 83 (f := .noat "Line" "rows") rfl),
   He.mkr_ok (c.fact 84 (f := .mkr "Line") rfl),
   He.meth_ok (c.fact 85 (f := .meth "Line" "now") rfl),
   He.meth_ok (c.fact 86 (f := .meth "Line" "need_hour") rfl),
   He.meth_ok (c.fact 87 (f := .meth "Line" "wish") rfl),
   He.meth_ok (c.fact 88 (f := .meth "Line" "spoil") rfl),
   He.meth_ok (c.fact 89 (f := .meth "Line" "run") rfl),
   He.meth_ok (c.fact 90 (f := .meth "Line" "jobs") rfl),
   He.meth_ok (c.fact 91 (f := .meth "Line" "sendings") rfl),
   He.cls_ok (c.fact 92 (f := .cls "Message") rfl),
   He.noat_ok (c.fact 93 (f := .noat "Message" "name") rfl),
   He.noat_ok (c.fact 94 (f := .noat "Message" "rank") rfl),
   He.noat_ok (c.fact 95 (f := .noat "Message" "gap") rfl),
   He.noat_ok (c.fact 96 (f := .noat "Message" "most") rfl),
   He.noat_ok (c.fact 97 (f := .noat "Message" "due") rfl),
   He.noat_ok (c.fact 98 (f := .noat "Message" "wait") rfl),
   He.mkr_ok (c.fact 99 (f := .mkr "Message") rfl),
   He.cls_ok (c.fact 100 (f := .cls "Bus") rfl),
   He.noat_ok (c.fact 101 (f := .noat "Bus" "by_name") rfl),
   He.noat_ok (c.fact 102 (f := .noat "Bus" "by_rank") rfl),
   He.mkr_ok (c.fact 103 (f := .mkr "Bus") rfl),
   He.meth_ok (c.fact 104 (f := .meth "Bus" "messages") rfl),
   He.meth_ok (c.fact 105 (f := .meth "Bus" "message") rfl),
   c.def_ 0 (d := d_jobs_of) rfl,
   c.def_ 1 (d := d_Parcel___init__) rfl,
   c.def_ 2 (d := d_Parcel_done_ticks) rfl,
   c.def_ 3 (d := d_parcels_in) rfl,
   c.def_ 4 (d := d_first_ready) rfl,
   c.def_ 5 (d := d_stop_of) rfl,
   c.def_ 6 (d := d_sent_by) rfl,
   c.def_ 7 (d := d_Line___init__) rfl,
   c.def_ 8 (d := d_Line_now) rfl,
   c.def_ 9 (d := d_Line_need_hour) rfl,
   c.def_ 10 (d := d_Line_wish) rfl,
   c.def_ 11 (d := d_Line_spoil) rfl,
   c.def_ 12 (d := d_Line_run) rfl,
   c.def_ 13 (d := d_Line_jobs) rfl,
   c.def_ 14 (d := d_Line_sendings) rfl,
   c.def_ 15 (d := d_is_name) rfl,
   c.def_ 16 (d := d_is_whole) rfl,
   c.def_ 17 (d := d_is_section) rfl,
   c.def_ 18 (d := d_lies_within) rfl,
   c.def_ 19 (d := d_go_together) rfl,
   c.def_ 20 (d := d_are_sections) rfl,
   c.def_ 21 (d := d_bad_part) rfl,
   c.def_ 22 (d := d_Message___init__) rfl,
   c.def_ 23 (d := d_Bus___init__) rfl,
   c.def_ 24 (d := d_Bus_messages) rfl,
   c.def_ 25 (d := d_Bus_message) rfl,
   c.def_ 26 (d := d_law_tape) rfl,
   c.def_ 27 (d := d_law_draw) rfl,
   c.def_ 28 (d := d_law_pick) rfl,
   c.def_ 29 (d := d_law_names) rfl,
   c.def_ 30 (d := d_law_ranked) rfl,
   c.def_ 31 (d := d_law_rows) rfl,
   c.def_ 32 (d := d_law_bus) rfl,
   c.def_ 33 (d := d_law_wishes) rfl,
   c.def_ 34 (d := d_law_told_to) rfl,
   c.def_ 35 (d := d_law_goes_on) rfl,
   c.def_ 36 (d := d_law) rfl⟩
end K57
set_option Elab.async false
set_option linter.all false
set_option maxRecDepth 100000
set_option maxHeartbeats 4000000
namespace K57
open PySem L2 Pw
/-! ### the tape -/
theorem k_cs : ¬ (("cells" : Str) = "spot") := by decide +kernel
theorem k_cr : ¬ (("cells" : Str) = "rest") := by decide +kernel
theorem k_sr : ¬ (("spot" : Str) = "rest") := by decide +kernel
theorem k_sc : ¬ (("spot" : Str) = "cells") := by decide +kernel
theorem k_rc : ¬ (("rest" : Str) = "cells") := by decide +kernel
theorem k_rs : ¬ (("rest" : Str) = "spot") := by decide +kernel
def tapeD (ca : Addr) (spot rest : Int) : List (Key × V) := [(.inr "cells", .ref ca), (.inr "spot", .int spot), (.inr "rest", .int rest)]
theorem tape_cells (ca : Addr) (s r : Int) : valV (tapeD ca s r) (.inr "cells") = some (.ref ca) := by simp [tapeD, valV]
theorem tape_spot (ca : Addr) (s r : Int) : valV (tapeD ca s r) (.inr "spot") = some (.int s) := by simp [tapeD, valV, k_cs]
theorem tape_rest (ca : Addr) (s r : Int) : valV (tapeD ca s r) (.inr "rest") = some (.int r) := by simp [tapeD, valV, k_cr, k_sr]
theorem tape_put_rest (ca : Addr) (s r x : Int) : putK (tapeD ca s r) (.inr "rest") (.int x) = tapeD ca s x := by simp [tapeD, putK, k_cr, k_sr]
theorem tape_put_spot (ca : Addr) (s r x : Int) : putK (tapeD ca s r) (.inr "spot") (.int x) = tapeD ca x r := by simp [tapeD, putK, k_cs, k_rs]
theorem tape_len (ca : Addr) (s r : Int) : (tapeD ca s r).length < sizeLine := by show 3 < sizeLine; decide
/-- the tape at t, its cells at ca, at most n draws made -/
structure Tape (H : Hp) (t ca : Addr) (n : Nat) : Prop where
  ex : ∃ (cells : List Int) (spot rest : Int), H t = some (.dK (tapeD ca spot rest)) ∧ H ca = some (.lst (cells.map V.int)) ∧ cells.length ≤ 63 ∧ 0 ≤ spot ∧ spot ≤ n ∧ 0 ≤ rest
theorem Tape.ne {H : Hp} {t ca : Addr} {n : Nat} (T : Tape H t ca n) : t ≠ ca := by
  obtain ⟨_, _, _, h1, h2, _⟩ := T.ex
  exact ne_of h1 h2 (fun z => by cases z)
theorem Tape.kp {S : List Addr} {g : Bool} {H H' : Hp} {t ca : Addr} {n : Nat} (T : Tape H t ca n) (k : Kg g S H H') (h1 : t ∉ S) (h2 : ca ∉ S) : Tape H' t ca n := by
  obtain ⟨c, s, r, e1, e2, e⟩ := T.ex
  exact ⟨c, s, r, k.dk e1 h1, k.lst e2 h2, e⟩
theorem Tape.kp0 {g : Bool} {H H' : Hp} {t ca : Addr} {n : Nat} (T : Tape H t ca n) (k : Kg g [] H H') : Tape H' t ca n := T.kp k n0 n0
theorem Tape.le {H : Hp} {t ca : Addr} {n m : Nat} (T : Tape H t ca n) (h : n ≤ m) : Tape H t ca m := by
  obtain ⟨c, s, r, e1, e2, e3, e4, e5, e6⟩ := T.ex
  exact ⟨c, s, r, e1, e2, e3, e4, by omega, e6⟩
/-- a draw: one of many -/
def spDraw : Sp := fun vs H Q _ => ∃ (t ca : Addr) (many : Int) (n : Nat), vs = [.ref t, .int many] ∧ Tape H t ca n ∧ 1 ≤ many ∧ many ≤ 2 ^ 64 ∧ n ≤ 1000000 ∧
  ∀ (d : Int) (H' : Hp), 0 ≤ d → d < many → Kp [t] H H' → Tape H' t ca (n + 1) → Q (.int d) H'
def spTape (K : PySem.W.Frag) : Sp := fun vs H Q _ => ∃ (a : Addr) (ns : List Int), vs = [.ref a] ∧ SqL K H a (ns.map V.int) ∧ ns.length ≤ 63 ∧
  ∀ (t ca : Addr) (H' : Hp), H t = none → H ca = none → Kp [] H H' → Tape H' t ca 0 → Q (.ref t) H'

section
variable {P : Program} {w : World} {K : PySem.W.Frag} {mg : Str → Option Value} {base : Heap}
theorem ok_law_tape (T : Txt K mg) : ∃ fd, FnOk P w K mg base CX0 1 (He.ga K "_law_tape") fd ["script"] (spTape K) ∧ Binds K fd ["script"] [] := by
  obtain ⟨fd, F⟩ := T.f_law_tape
  refine ⟨fd, F.ok sc_law_tape (fun vs H Q E h => ?_) (fun cdv A outer s H vs Q E hr h => ?_), F.bindsN fun _ _ _ _ _ _ us hl => match us, hl with | [_], _ => rfl⟩
  · obtain ⟨a, ns, rfl, _⟩ := h
    rfl
  · obtain ⟨a, ns, rfl, hS, hl, k⟩ := h
    refine ⟨_, PSs.nox (pss_one (ps_ret (pe_disp (pps_cons pe_str (pe_callTy call_list_of (by rfl) T.b_list (by decide +kernel) (pa_cons (pe_slice sl_list (pv 0) po_none (po_some pe_int)) pa_nil)) (pps_cons pe_str pe_int (pps_cons pe_str pe_int pps_nil))) (by rfl) (by rfl) (fun z => by cases z) (by decide)))), ?_⟩
    intro p hp
    generalize e : upd _ p _ = H0
    obtain ⟨e0, k0⟩ := newF e hp
    refine ⟨_, rfl, _, rfl, a, _, rfl, k0.seq hS n0, ?_⟩
    intro q hq
    generalize e : upd _ q _ = H1
    obtain ⟨eq, k1⟩ := newF e hq
    have e1 := k1.dk e0 n0
    have ec : cutV (ns.map V.int) none (some 63) = ns.map V.int := by
      unfold cutV
      have z : HT.sIx (ns.map V.int).length (ns.map V.int).length (some 63) = (ns.map V.int).length := by
        rw [List.length_map]
        simp [HT.sIx]
        omega
      rw [z]
      simp [HT.sIx, List.take_of_length_le]
    rw [ec] at eq
    refine ⟨q, _, rfl, .inl (SqL.of eq), ?_⟩
    intro c hc
    generalize e : upd _ c _ = H2
    obtain ⟨ec, k2⟩ := newF e hc
    have e2 := k2.dk e1 n0
    refine ⟨e2, [(.inr "cells", .ref c), (.inr "spot", .int 0), (.inr "rest", .int 0)], rfl, (by show 3 ≤ 15; decide), ?_⟩
    have em : mergeK [] [((.inr "cells" : Key), V.ref c), (.inr "spot", .int 0), (.inr "rest", .int 0)] = tapeD c 0 0 := by
      simp [mergeK, putK, tapeD, k_cs, k_cr, k_sr]
    rw [em]
    generalize e : upd _ p _ = H3
    obtain ⟨e3, k3⟩ := putD e e2
    have hpc : c ≠ p := ne_of ec e2 (fun z => by cases z)
    exact k p c H3 hp ((k0.trans k1).free0 hc) (((k0.trans k1).trans k2).mut k3 hp) ⟨ns, 0, 0, e3, k3.lst ec (n1 hpc), hl, by decide, by decide, by decide⟩
theorem ok_law_draw (T : Txt K mg) : ∃ fd, FnOk P w K mg base CX0 1 (He.ga K "_law_draw") fd ["tape", "many"] spDraw ∧ Binds K fd ["tape", "many"] [] := by
  obtain ⟨fd, F⟩ := T.f_law_draw
  refine ⟨fd, F.ok sc_law_draw (fun vs H Q E h => ?_) (fun cdv A outer s H vs Q E hr h => ?_), F.bindsN fun _ _ _ _ _ _ us hl => match us, hl with | [_, _], _ => rfl⟩
  · obtain ⟨t, ca, many, n, rfl, _⟩ := h
    rfl
  · obtain ⟨t, ca, many, n, rfl, TT, hm1, hm2, hn, k⟩ := h
    obtain ⟨cells, spot, rest, et, ec, hl, hs0, hsn, hr0⟩ := id TT.ex
    have hu := hu_of hr
    have tca := TT.ne
    refine ⟨_, PSs.nox (pss_cons (ps_if (pt_cmpR (op_gt) (pe_dget hu (pv 0) pe_str (fun _ _ => rfl)) pe_int (nomark _))
          (pss_cons (ps_set (i := 2) sc_law_draw.nd rfl (Or.inl rfl) (pe_op op_mod (pe_dget hu (pv 0) pe_str (fun _ _ => rfl)) (pv 1)))
          (pss_cons (ps_dput hu (pv 0) pe_str (pe_op op_fdivW (pe_dget hu (pv 0) pe_str (fun _ _ => rfl)) (pv 1)) rfl)
          (pss_one (ps_ret (pv 2)))))
          pss_nil)
      (pss_cons (ps_set (i := 3) sc_law_draw.nd rfl (Or.inl rfl) (pe_dget hu (pv 0) pe_str (fun _ _ => rfl)))
      (pss_cons (ps_dput hu (pv 0) pe_str (pe_op op_add (pv 3) pe_int) rfl)
      (pss_cons (ps_set (i := 4) sc_law_draw.nd rfl (Or.inl rfl) (pe_op op_add pe_int (pv 3)))
      (C8.pss_cut (ps_if (pt_cmpR (op_neD hr.units) (pe_dget hu (pv 0) pe_str (fun _ _ => rfl)) (pe_lst pa_nil) (nomark _))
          (pss_one (ps_set (i := 4) sc_law_draw.nd rfl (Or.inl rfl) (pe_ix ix_list (pe_dget hu (pv 0) pe_str (fun _ _ => rfl)) (pe_op op_mod (pv 3) (pe_callB call_len (by rfl) T.b_len (by decide +kernel) (pa_cons (pe_dget hu (pv 0) pe_str (fun _ _ => rfl)) pa_nil))) (fun _ _ => rfl))))
          pss_nil)
      (pss_cons (ps_if (PW.pt (pw_and (pt_cmpR (op_ge) (pv 4) (pe_op op_pow pe_int pe_int) (nomark _)) (pw_and1 (pt_cmpR (op_lt) (pv 3) (pe_callB call_len (by rfl) T.b_len (by decide +kernel) (pa_cons (pe_dget hu (pv 0) pe_str (fun _ _ => rfl)) pa_nil)) (nomark _)))))
          (pss_cons (ps_dput hu (pv 0) pe_str (pe_op op_fdivW (pe_op op_sub (pv 4) (pe_op op_pow pe_int pe_int)) (pv 1)) rfl)
          (pss_one (ps_ret (pe_op op_mod (pe_op op_sub (pv 4) (pe_op op_pow pe_int pe_int)) (pv 1)))))
          pss_nil)
      (pss_cons (ps_set (i := 5) sc_law_draw.nd rfl (Or.inl rfl) (pe_op op_mod (pe_op op_add (pe_op op_add (pe_op op_add (pe_op op_mulW (pe_op op_mod (pv 4) pe_int) pe_int) (pe_op op_mulW (pe_op op_mulW pe_int (pv 3)) (pv 3))) (pe_op op_mulW pe_int (pv 3))) pe_int) pe_int))
      (pss_cons (ps_set (i := 5) sc_law_draw.nd rfl (Or.inl rfl) (pe_op op_mod (pe_op op_add (pe_op op_add (pe_op op_mulW (pv 5) (pv 5)) (pe_op op_mulW pe_int (pv 5))) (pv 3)) pe_int))
      (pss_one (ps_ret (pe_op op_mod (pe_op op_fdivW (pe_op op_mod (pe_op op_mulW (pv 5) (pe_op op_add (pe_op op_mod (pv 5) pe_int) pe_int)) pe_int) pe_int) (pv 1)))))))))))), ?_⟩
    have dm : CDivW rest many := wide_div (b := 65) (by omega) (by omega) (by decide) (by decide)
    have getR : DGet H t (.str "rest") (some (.int rest)) := by
      have z := DGet.k (k := (.inr "rest" : Key)) et
      rwa [tape_rest] at z
    have getS : DGet H t (.str "spot") (some (.int spot)) := by
      have z := DGet.k (k := (.inr "spot" : Key)) et
      rwa [tape_spot] at z
    refine ⟨_, rfl, t, _, rfl, getR, _, _, rfl, rfl, _, rfl, ?_⟩
    refine ite2 (fun c => ?_) (fun c => ?_)
    · -- a digit of a great cell
      have c : 0 < rest := of_decide_eq_true c
      refine ⟨_, rfl, t, _, rfl, getR, _, rfl, _, _, rfl, rfl, by omega, ?_⟩
      refine ⟨_, rfl, t, _, rfl, getR, _, rfl, _, _, rfl, rfl, dm, ?_⟩
      refine ⟨_, rfl, t, _, rfl, DPut.k (k := .inr "rest") et (tape_len _ _ _), ?_⟩
      rw [tape_put_rest]
      generalize e : upd _ t _ = H1
      obtain ⟨e1, k1⟩ := putD e et
      refine ⟨_, rfl, k _ H1 (Int.emod_nonneg _ (by omega)) (Int.emod_lt_of_pos _ (by omega)) k1 ⟨cells, spot, _, e1, k1.lst ec (n1 tca.symm), hl, hs0, by omega, Int.ediv_nonneg hr0 (by omega)⟩⟩
    · -- the next cell
      refine ⟨_, rfl, t, _, rfl, getS, ?_⟩
      refine ⟨_, rfl, _, _, rfl, rfl, _, rfl, t, _, rfl, DPut.k (k := .inr "spot") et (tape_len _ _ _), ?_⟩
      rw [tape_put_spot]
      generalize e : upd _ t _ = H1
      obtain ⟨e1, k1⟩ := putD e et
      have ec1 := k1.lst ec (n1 tca.symm)
      have getC : DGet H1 t (.str "cells") (some (.ref ca)) := by
        have z := DGet.k (k := (.inr "cells" : Key)) e1
        rwa [tape_cells] at z
      refine ⟨_, rfl, _, _, rfl, rfl, ?_⟩
      refine ⟨fun σ' H' => ∃ cell : Int, σ' = [some (.ref t), some (.int many), none, some (.int spot), some (.int cell), none] ∧ Kp [] H1 H', ?_, ?_⟩
      · refine ⟨_, rfl, t, _, rfl, getC, ?_⟩
        refine ⟨by decide, ?_⟩
        intro q hq
        generalize e : upd _ q _ = H2
        obtain ⟨e2, k2⟩ := newF e hq
        have et2 := k2.dk e1 n0
        have ec2 := k2.lst ec1 n0
        refine ⟨.list (cells.map .int), .list [], .lst (SqL.of ec2) (dp_ints cells), .lst (SqL.of e2) .nil, (Okd.list (okd_ints cells)).shaped (k := 1) (by decide), (Okd.list okd_nil).shaped (k := 1) (by decide), _, rfl, ?_⟩
        cases cells with
        | nil => exact iteF ⟨_, rfl, k2⟩
        | cons c0 cs =>
          refine iteT ?_
          have getC2 : DGet H2 t (.str "cells") (some (.ref ca)) := by
            have z := DGet.k (k := (.inr "cells" : Key)) et2
            rwa [tape_cells] at z
          have hlen : 0 < (((c0 :: cs).map V.int).length : Int) := by rw [List.length_map]; show (0 : Int) < ((cs.length + 1 : Nat) : Int); omega
          have a1 := Int.emod_lt_of_pos spot hlen
          have a2 := Int.emod_nonneg spot (Int.ne_of_gt hlen)
          have hlt : (spot % (((c0 :: cs).map V.int).length : Int)).toNat < (c0 :: cs).length := by
            have q := a1
            rw [List.length_map] at q a2
            rw [List.length_map]
            omega
          refine ⟨_, rfl, t, _, rfl, getC2, _, rfl, _, rfl, t, _, rfl, getC2, _, _, rfl, .inl ⟨_, SqL.of ec2, rfl⟩, _, _, rfl, rfl, hlen, ca, _, _, _, rfl, rfl, SqL.of ec2, at_of (j := (spot % (((c0 :: cs).map V.int).length : Int)).toNat) (v := .int (c0 :: cs)[(spot % (((c0 :: cs).map V.int).length : Int)).toNat]) (Int.toNat_of_nonneg a2).symm ?_, ?_⟩
          · rw [List.getElem?_map, List.getElem?_eq_getElem hlt]
            rfl
          · exact ⟨_, rfl, k2⟩
      · rintro σ' H2 ⟨cell, rfl, k2⟩
        have et2 := k2.dk e1 n0
        have ec2 := k2.lst ec1 n0
        have getC2 : DGet H2 t (.str "cells") (some (.ref ca)) := by
          have z := DGet.k (k := (.inr "cells" : Key)) et2
          rwa [tape_cells] at z
        have k12 : Kp [t] H H2 := k1.trans k2.any
        have done : ∀ d : Int, 0 ≤ d → d < many → Q (.int d) H2 := fun d h1 h2 => k d H2 h1 h2 k12 ⟨cells, _, _, et2, ec2, hl, by omega, by omega, hr0⟩
        have pc : CPow 10 18 := ⟨by decide, by decide, by decide⟩
        have tail : tSeq (tAsg (tOp (rI (fun _ j => 0 < j) fun i j => .int (i % j)) (tOp (rI0 fun i j => .int (i + j)) (tOp (rI0 fun i j => .int (i + j)) (tOp (rI0 fun i j => .int (i + j)) (tOp (rI CMulW fun i j => .int (i * j)) (tOp (rI (fun _ j => 0 < j) fun i j => .int (i % j)) (tVar 4) (tC (.int 2147483647))) (tC (.int 48271))) (tOp (rI CMulW fun i j => .int (i * j)) (tOp (rI CMulW fun i j => .int (i * j)) (tC (.int 7919)) (tVar 3)) (tVar 3))) (tOp (rI CMulW fun i j => .int (i * j)) (tC (.int 31)) (tVar 3))) (tC (.int 5))) (tC (.int 2147483629))) (gName 5))
            (tSeq (tAsg (tOp (rI (fun _ j => 0 < j) fun i j => .int (i % j)) (tOp (rI0 fun i j => .int (i + j)) (tOp (rI0 fun i j => .int (i + j)) (tOp (rI CMulW fun i j => .int (i * j)) (tVar 5) (tVar 5)) (tOp (rI CMulW fun i j => .int (i * j)) (tC (.int 69621)) (tVar 5))) (tVar 3)) (tC (.int 2147483587))) (gName 5))
              (tRet (tOp (rI (fun _ j => 0 < j) fun i j => .int (i % j)) (tOp (rI CDivW fun i j => .int (i / j)) (tOp (rI (fun _ j => 0 < j) fun i j => .int (i % j)) (tOp (rI CMulW fun i j => .int (i * j)) (tVar 5) (tOp (rI0 fun i j => .int (i + j)) (tOp (rI (fun _ j => 0 < j) fun i j => .int (i % j)) (tVar 5) (tC (.int 40699))) (tC (.int 3)))) (tC (.int 2147483563))) (tC (.int 64))) (tVar 1))))
            { nx := fun _ H' => Q .non H', rt := Q } [some (.ref t), some (.int many), none, some (.int spot), some (.int cell), none] H2 := by
          have sp : spot.natAbs < 2 ^ 20 := by omega
          have p1 : (0 : Int) < 2147483647 := by decide
          have p2 : (0 : Int) < 2147483629 := by decide
          have p3 : (0 : Int) < 2147483587 := by decide
          have m1 := Int.emod_nonneg cell (Int.ne_of_gt p1)
          have m2 := Int.emod_lt_of_pos cell p1
          refine ⟨_, rfl, _, _, rfl, rfl, p1, _, _, rfl, rfl, wide_mul (a := 32) (b := 32) (by omega) (by decide) (by decide) (by decide) (by decide), _, rfl, _, _, rfl, rfl, wide_mul (a := 32) (b := 32) (by decide) (by omega) (by decide) (by decide) (by decide), _, rfl, _, _, rfl, rfl, wide_mul (a := 64) (b := 32) (by omega) (by omega) (by decide) (by decide) (by decide), _, _, rfl, rfl,
            _, rfl, _, _, rfl, rfl, wide_mul (a := 32) (b := 32) (by decide) (by omega) (by decide) (by decide) (by decide), _, _, rfl, rfl, _, _, rfl, rfl, _, _, rfl, rfl, p2, ?_⟩
          generalize hx : (cell % 2147483647 * 48271 + 7919 * spot * spot + 31 * spot + 5) % 2147483629 = x
          have x1 : 0 ≤ x := by rw [← hx]; exact Int.emod_nonneg _ (Int.ne_of_gt p2)
          have x2 : x < 2147483629 := by rw [← hx]; exact Int.emod_lt_of_pos _ p2
          refine ⟨_, rfl, _, rfl, _, _, rfl, rfl, wide_mul (a := 32) (b := 32) (by omega) (by omega) (by decide) (by decide) (by decide), _, rfl, _, _, rfl, rfl, wide_mul (a := 32) (b := 32) (by decide) (by omega) (by decide) (by decide) (by decide), _, _, rfl, rfl, _, rfl, _, _, rfl, rfl, _, _, rfl, rfl, p3, ?_⟩
          generalize hy : (x * x + 69621 * x + spot) % 2147483587 = y
          have y1 : 0 ≤ y := by rw [← hy]; exact Int.emod_nonneg _ (Int.ne_of_gt p3)
          have y2 : y < 2147483587 := by rw [← hy]; exact Int.emod_lt_of_pos _ p3
          have p4 : (0 : Int) < 40699 := by decide
          have p5 : (0 : Int) < 2147483563 := by decide
          have z1 := Int.emod_nonneg y (Int.ne_of_gt p4)
          have z2 := Int.emod_lt_of_pos y p4
          refine ⟨_, rfl, _, rfl, _, _, rfl, rfl, p4, _, _, rfl, rfl, _, _, rfl, rfl, wide_mul (a := 32) (b := 32) (by omega) (by omega) (by decide) (by decide) (by decide), _, _, rfl, rfl, p5, _, _, rfl, rfl, wide_div (b := 7) (by decide) (by decide) (by decide) (by decide), _, rfl, _, _, rfl, rfl, by omega, ?_⟩
          exact done _ (Int.emod_nonneg _ (by omega)) (Int.emod_lt_of_pos _ (by omega))
        refine ⟨_, rfl, _, _, rfl, rfl, pc, _, _, rfl, rfl, _, rfl, ?_⟩
        refine ite2 (fun c1 => ?_) (fun c1 => ?_)
        · refine ⟨_, rfl, _, rfl, t, _, rfl, getC2, _, _, rfl, .inl ⟨_, SqL.of ec2, rfl⟩, _, _, rfl, rfl, _, rfl, ?_⟩
          refine ite2 (fun c2 => ?_) (fun c2 => ?_)
          · have dm2 : CDivW (cell - 10 ^ (18 : Int).toNat) many := wide_div (b := 65) (by omega) (by omega) (by decide) (by decide)
            refine ⟨_, rfl, _, _, rfl, rfl, pc, _, _, rfl, rfl, _, rfl, _, _, rfl, rfl, dm2, _, rfl, t, _, rfl, DPut.k (k := .inr "rest") et2 (tape_len _ _ _), ?_⟩
            rw [tape_put_rest]
            generalize e : upd _ t _ = H3
            obtain ⟨e3, k3⟩ := putD e et2
            refine ⟨_, rfl, _, _, rfl, rfl, pc, _, _, rfl, rfl, _, rfl, _, _, rfl, rfl, by omega, ?_⟩
            have c1' : (10 : Int) ^ (18 : Int).toNat ≤ cell := of_decide_eq_true c1
            exact k _ H3 (Int.emod_nonneg _ (by omega)) (Int.emod_lt_of_pos _ (by omega)) (k12.trans k3) ⟨cells, _, _, e3, k3.lst ec2 (n1 tca.symm), hl, by omega, by omega, Int.ediv_nonneg (by omega) (by omega)⟩
          · exact tail
        · show (if false = true then _ else _)
          exact iteF tail
end
end K57
set_option Elab.async false
set_option linter.all false
set_option maxRecDepth 100000
set_option maxHeartbeats 4000000
namespace K57
open PySem L2 Pw
/-! ### a pick, the names -/
def spPick : Sp := fun vs H Q _ => ∃ (t ca a : Addr) (xs : List V) (n : Nat), vs = [.ref t, .ref a] ∧ Tape H t ca n ∧ H a = some (.lst xs) ∧ 1 ≤ xs.length ∧ xs.length ≤ 1000000 ∧ n ≤ 1000000 ∧
  ∀ (i : Nat) (v : V) (H' : Hp), xs[i]? = some v → Kp [t] H H' → Tape H' t ca (n + 1) → Q v H'
theorem Tape.nl {H : Hp} {t ca a : Addr} {n : Nat} {xs : List V} (T : Tape H t ca n) (h : H a = some (.lst xs)) : a ≠ t := by
  obtain ⟨_, _, _, h1, _⟩ := T.ex
  exact ne_of h h1 (fun z => by cases z)
theorem Tape.nt {H : Hp} {t ca a : Addr} {n : Nat} {xs : List V} (T : Tape H t ca n) (h : H a = some (.tup xs)) : a ≠ t := by
  obtain ⟨_, _, _, h1, _⟩ := T.ex
  exact ne_of h h1 (fun z => by cases z)
/-- a name: one to twelve small letters -/
def NameL (l : List Nat) : Prop := 1 ≤ l.length ∧ l.length ≤ 12 ∧ ∀ c ∈ l, 97 ≤ c ∧ c ≤ 122
def NameOk (x : Str) : Prop := NameL x.cps.toList
theorem NameOk.ok {x : Str} (h : NameOk x) : PyData.strOk x = true := by
  unfold PyData.strOk
  rw [Array.all_eq_true]
  intro i hi
  have z := h.2.2 x.cps[i] (by simp)
  simp
  omega
section
variable {P : Program} {w : World} {K : PySem.W.Frag} {mg : Str → Option Value} {base : Heap}
theorem ok_law_pick (T : Txt K mg) : ∃ fd, FnOk P w K mg base CX0 2 (He.ga K "_law_pick") fd ["tape", "some"] spPick ∧ Binds K fd ["tape", "some"] [] := by
  obtain ⟨fd, F⟩ := T.f_law_pick
  obtain ⟨_, G__law_draw, b__law_draw⟩ := ok_law_draw (P := P) (w := w) (base := base) T
  refine ⟨fd, F.ok sc_law_pick (fun vs H Q E h => ?_) (fun cdv A outer s H vs Q E hr h => ?_), F.bindsN fun _ _ _ _ _ _ us hl => match us, hl with | [_, _], _ => rfl⟩
  · obtain ⟨t, ca, a, xs, n, rfl, _⟩ := h
    rfl
  · obtain ⟨t, ca, a, xs, n, rfl, TT, ha, h1, h2, hn, k⟩ := h
    refine ⟨_, PSs.nox (pss_one (ps_ret (pe_ix ix_seq (pv 1) (pe_call G__law_draw (hr.mono (by decide)) rfl T.g__law_draw T.k__law_draw b__law_draw .nil pass0 (pa_cons (pv 0) (pa_cons (pe_callB call_len (by rfl) T.b_len (by decide +kernel) (pa_cons (pv 1) pa_nil)) pa_nil))) (fun _ _ => rfl)))), ?_⟩
    refine ⟨_, rfl, _, rfl, _, rfl, _, _, rfl, .inl ⟨_, SqL.of ha, rfl⟩, t, ca, _, n, rfl, TT, by omega, by omega, hn, fun d H' d0 d1 kp T' => ?_⟩
    have hlt : d.toNat < xs.length := by omega
    have hx : xs[d.toNat]? = some xs[d.toNat] := List.getElem?_eq_getElem hlt
    exact .inl ⟨a, xs, _, _, rfl, rfl, SqL.of (kp.lst ha (n1 (TT.nl ha))), at_of (j := d.toNat) (Int.toNat_of_nonneg d0).symm hx, k _ _ H' hx kp T'⟩
end
/-! ### the names: base, cut at a place, a letter of a row without twice, the rest or a part of it -/
theorem ab_at {i : Nat} (h : i < 26) : ("abcdefghijklmnopqrstuvwxyz" : Str).cps.toList[i]? = some (97 + i) := by
  have e : ("abcdefghijklmnopqrstuvwxyz" : Str).cps.toList = List.range' 97 26 := by decide +kernel
  rw [e, List.getElem?_range' h]
  simp
theorem at_nn {α : Type} {xs : List α} {z : Int} {v : α} (h : 0 ≤ z) (e : xs[z.toNat]? = some v) : atI xs z = some v := by
  have q := atI_nat e
  rwa [Int.toNat_of_nonneg h] at q
theorem sing_get {α : Type} {x y : α} {k : Nat} (h : [x][k]? = some y) : k = 0 ∧ y = x := by
  cases k with
  | zero => exact ⟨rfl, (Option.some.inj h).symm⟩
  | succ k => simp at h
theorem ab_len : ("abcdefghijklmnopqrstuvwxyz" : Str).length ≤ sizeLine := by decide +kernel
theorem name_nd {bc : List Nat} {spot first by_ : Nat} {bh : Nat → List Nat} (hs : spot < bc.length) (hb : by_ = 3 ∨ by_ = 5 ∨ by_ = 7 ∨ by_ = 9 ∨ by_ = 11 ∨ by_ = 15 ∨ by_ = 17 ∨ by_ = 25) {j k : Nat} (hj : j < k) (hk : k < 26) :
    bc.take spot ++ [97 + (first + by_ * j) % 26] ++ bh j ≠ bc.take spot ++ [97 + (first + by_ * k) % 26] ++ bh k := by
  intro e
  have l : (bc.take spot).length = spot := by rw [List.length_take]; omega
  have mid : ∀ (A : List Nat) (x : Nat) (B : List Nat), (A ++ [x] ++ B)[A.length]? = some x := fun A x B => by simp
  have e2 := congrArg (fun l => l[(bc.take spot).length]?) e
  simp only [mid] at e2
  have e3 := Option.some.inj e2
  rcases hb with rfl | rfl | rfl | rfl | rfl | rfl | rfl | rfl <;> omega
theorem sum_ones : ∀ l : List Str, (∀ x ∈ l, x.length = 1) → (l.map (·.length)).sum = l.length
  | [], _ => rfl
  | x :: r, h => by
    rw [List.map_cons, List.sum_cons, h x (List.mem_cons_self ..), sum_ones r fun y hy => h y (List.mem_cons_of_mem _ hy), List.length_cons]
    omega
theorem join_ones : ∀ l : List Nat, (Txt.join Str.empty (l.map fun c => (⟨#[c]⟩ : Str))).cps.toList = l := fun l => by
  rw [TL.join_eq]
  have z := TL.tl_join Str.empty (l.map fun c => (⟨#[c]⟩ : Str))
  have e : TL.tl (Str.join Str.empty (l.map fun c => (⟨#[c]⟩ : Str))) = l := by
    rw [z, List.map_map]
    have g : ∀ l : List Nat, TL.joinL (TL.tl Str.empty) (l.map (TL.tl ∘ fun c => (⟨#[c]⟩ : Str))) = l := by
      intro l
      induction l with
      | nil => rfl
      | cons c r ih =>
        cases r with
        | nil => rfl
        | cons d r =>
          show [c] ++ (TL.tl Str.empty ++ TL.joinL (TL.tl Str.empty) ((d :: r).map (TL.tl ∘ fun c => (⟨#[c]⟩ : Str)))) = c :: d :: r
          rw [ih]
          rfl
    exact g l
  exact e
theorem okd_nil_c : ∀ c ∈ ([] : List Nat), 97 ≤ c ∧ c ≤ 122 := fun _ h => nomatch h
theorem cut_to (z : Str) (k : Nat) : (cutS z none (some (k : Int))).cps.toList = z.cps.toList.take k := by
  unfold cutS
  rw [HT.sIx_nat, HT.sIx_none, List.drop_zero, Nat.sub_zero]
  show z.cps.toList.take (min k z.length) = z.cps.toList.take k
  have e : z.length = z.cps.toList.length := by rw [Array.length_toList]; rfl
  rw [e]
  exact (List.take_eq_take_min ..).symm
theorem cut_from (z : Str) (k : Nat) : (cutS z (some (k : Int)) none).cps.toList = z.cps.toList.drop k := by
  unfold cutS
  rw [HT.sIx_nat, HT.sIx_none]
  have e : z.length = z.cps.toList.length := by rw [Array.length_toList]; rfl
  rw [e]
  show (z.cps.toList.drop (min k z.cps.toList.length)).take (z.cps.toList.length - min k z.cps.toList.length) = z.cps.toList.drop k
  by_cases h : k ≤ z.cps.toList.length
  · rw [Nat.min_eq_left h]
    exact List.take_of_length_le (by rw [List.length_drop]; omega)
  · rw [Nat.min_eq_right (by omega), List.drop_of_length_le (Nat.le_refl _), List.drop_of_length_le (by omega), List.take_nil]
theorem str_len (z : Str) : z.length = z.cps.toList.length := by rw [Array.length_toList]; rfl
theorem app_toList (a b : Str) : (a ++ b).cps.toList = a.cps.toList ++ b.cps.toList := Array.toList_append ..
def spNames : Sp := fun vs H Q _ => ∃ (t ca : Addr) (many : Int) (n : Nat), vs = [.ref t, .int many] ∧ Tape H t ca n ∧ 0 ≤ many ∧ many ≤ 26 ∧ n ≤ 900000 ∧
  ∀ (l : Addr) (names : List Str) (H' : Hp), H l = none → H' l = some (.lst (names.map V.str)) → Kp [t] H H' → Tape H' t ca (n + 17) → names.length = many.toNat → names.Nodup → (∀ x ∈ names, NameOk x) → Q (.ref l) H'
section
variable {P : Program} {w : World} {K : PySem.W.Frag} {mg : Str → Option Value} {base : Heap}
theorem ok_law_names (T : Txt K mg) : ∃ fd, FnOk P w K mg base CX0 3 (He.ga K "_law_names") fd ["tape", "many"] spNames ∧ Binds K fd ["tape", "many"] [] := by
  obtain ⟨fd, F⟩ := T.f_law_names
  obtain ⟨_, G__law_draw, b__law_draw⟩ := ok_law_draw (P := P) (w := w) (base := base) T
  obtain ⟨_, G__law_pick, b__law_pick⟩ := ok_law_pick (P := P) (w := w) (base := base) T
  refine ⟨fd, F.ok sc_law_names (fun vs H Q E h => ?_) (fun cdv A outer s H vs Q E hr h => ?_), F.bindsN fun _ _ _ _ _ _ us hl => match us, hl with | [_, _], _ => rfl⟩
  · obtain ⟨t, ca, many, n, rfl, _⟩ := h
    rfl
  · obtain ⟨t, ca, many, n, rfl, TT, hm0, hm1, hn, k⟩ := h
    refine ⟨_, PSs.nox (pss_cons (ps_set (i := 2) sc_law_names.nd rfl (Or.inr rfl) pe_str)
      (pss_cons (ps_set (i := 4) sc_law_names.nd rfl (Or.inl rfl) (pe_join pe_str (pe_lc (own := [("k", 3)]) rfl sc_law_names.nd (pi_range1 rfl T.b_range (pa_cons (pe_op op_add pe_int (pe_call G__law_draw (hr.mono (by decide)) rfl T.g__law_draw T.k__law_draw b__law_draw .nil pass0 (pa_cons (pv 0) (pa_cons pe_int pa_nil)))) pa_nil)) (blkOk_by (N := N_law_names) (sc := defScope s_law_names) (by decide +kernel)) (fun _ _ _ _ _ => (pg_name (i := 3) sc_law_names.nd rfl (Or.inl rfl))) (fun _ _ _ _ _ => pts_nil) (fun _ _ _ _ _ => (pe_ix ix_str (pv 2) (pe_call G__law_draw (hr.mono (by decide)) rfl T.g__law_draw T.k__law_draw b__law_draw .nil pass0 (pa_cons (pv 0) (pa_cons pe_int pa_nil))) (fun _ _ => rfl))))))
      (pss_cons (ps_par (i := 5) (j := 6) (by rfl) sc_law_names.nd rfl rfl (by decide) rfl rfl (pa_cons (pe_call G__law_draw (hr.mono (by decide)) rfl T.g__law_draw T.k__law_draw b__law_draw .nil pass0 (pa_cons (pv 0) (pa_cons (pe_callB call_len (by rfl) T.b_len (by decide +kernel) (pa_cons (pv 4) pa_nil)) pa_nil))) (pa_cons (pe_call G__law_draw (hr.mono (by decide)) rfl T.g__law_draw T.k__law_draw b__law_draw .nil pass0 (pa_cons (pv 0) (pa_cons pe_int pa_nil))) pa_nil)) (by rfl))
      (pss_cons (ps_par (i := 7) (j := 8) (by rfl) sc_law_names.nd rfl rfl (by decide) rfl rfl (pa_cons (pe_call G__law_pick (hr.mono (by decide)) rfl T.g__law_pick T.k__law_pick b__law_pick .nil pass0 (pa_cons (pv 0) (pa_cons (pe_lst (pa_cons pe_int (pa_cons pe_int (pa_cons pe_int (pa_cons pe_int (pa_cons pe_int (pa_cons pe_int (pa_cons pe_int (pa_cons pe_int pa_nil))))))))) pa_nil))) (pa_cons (pe_call G__law_draw (hr.mono (by decide)) rfl T.g__law_draw T.k__law_draw b__law_draw .nil pass0 (pa_cons (pv 0) (pa_cons pe_int pa_nil))) pa_nil)) (by rfl))
      (pss_cons (ps_set (i := 9) sc_law_names.nd rfl (Or.inl rfl) (pe_lst pa_nil))
      (pss_cons (ps_for PassesOwn.never rfl (pi_range1 rfl T.b_range (pa_cons (pv 1) pa_nil)) (pg_name (i := 3) sc_law_names.nd rfl (Or.inl rfl))
          (pss_cons (ps_set (i := 10) sc_law_names.nd rfl (Or.inl rfl) (pe_ifExp (pt_cmpR (op_eq) (pv 8) pe_int (nomark _)) (pe_slice sl_str (pv 4) (po_some (pe_op op_add (pv 5) pe_int)) po_none) (pe_slice sl_str (pe_slice sl_str (pv 4) (po_some (pe_op op_add (pv 5) pe_int)) po_none) po_none (po_some (pe_op op_mod (pv 3) pe_int)))))
          (pss_one (ps_expr (pe_bm PySem.F.plainAttrs_list PySem.F.slot_list_append PySem.F.type_list_append mt_append (pv 9) (pa_cons (pe_op op_add_str (pe_op op_add_str (pe_slice sl_str (pv 4) po_none (po_some (pv 5))) (pe_ix ix_str (pv 2) (pe_op op_mod (pe_op op_add (pv 6) (pe_op op_mulW (pv 7) (pv 3))) pe_int) (fun _ _ => rfl))) (pv 10)) pa_nil))))))
      (pss_one (ps_ret (pv 9))))))))), ?_⟩
    refine ⟨⟨_, rfl⟩, _, rfl, t, ca, _, n, rfl, TT, by decide, by decide, by omega, fun d H1 d0 d1 k1 T1 => ?_⟩
    refine ⟨_, _, rfl, rfl, _, rfl, by omega, by omega, fun D hD => ?_⟩
    have hD0 : H D = none := k1.free (fun z => by
      obtain rfl : D = t := by simpa using z
      obtain ⟨_, _, _, h1, _⟩ := T1.ex
      rw [hD] at h1; cases h1) hD
    refine lc_it walk_range (fun i H' => ∃ cs : List Nat, cs.length = i ∧ (∀ c ∈ cs, 97 ≤ c ∧ c ≤ 122) ∧ H' D = some (.lst ((cs.map fun c => (⟨#[c]⟩ : Str)).map V.str)) ∧ Kp [t] H H' ∧ Tape H' t ca (n + 1 + i)) ?_ (fun _ _ _ _ => trivial) ?_ ?_
    · generalize e : upd _ D _ = H2
      obtain ⟨e2, k2⟩ := newF e hD
      exact ⟨[], rfl, okd_nil_c, e2, k1.trans k2.any, T1.kp0 k2⟩
    · rintro i x H2 H3 hi ⟨cs, hcl, hcs, eD, k2, T2⟩ ⟨rfl, rfl⟩
      refine ⟨rfl, ?_⟩
      refine ⟨_, rfl, _, rfl, t, ca, _, n + 1 + i, rfl, T2, by decide, by decide, by omega, fun dd H4 e0 e1 k3 T3 => ?_⟩
      refine ⟨_, _, _, rfl, rfl, ab_len, at_nn e0 (ab_at (by omega)), ?_⟩
      have eD4 := k3.lst eD (n1 (T2.nl eD))
      refine ⟨_, eD4, (by rw [List.length_map, List.length_map]; exact small1000 (by omega)), ?_⟩
      generalize e : upd _ D _ = H5
      obtain ⟨e5, k5⟩ := putL e eD4
      refine ⟨cs ++ [97 + dd.toNat], by rw [List.length_append, hcl]; rfl, fun c hc => ?_, ?_, (k2.trans k3).mut k5 hD0, T3.kp k5 (n1 (T3.nl eD4).symm) ?_⟩
      · rcases List.mem_append.mp hc with hc | hc
        · exact hcs c hc
        · rw [List.mem_singleton.mp hc]
          omega
      · rw [e5, List.map_append, List.map_append]
        rfl
      · obtain ⟨_, _, _, _, h2, _⟩ := TT.ex
        exact n1 (ne_of_none h2 hD0)
    · rintro H2 ⟨cs, hcl, hcs, eD, k2, T2⟩
      have ho : ∀ x ∈ cs.map (fun c => (⟨#[c]⟩ : Str)), x.length = 1 := fun x hx => by
        obtain ⟨c, _, rfl⟩ := List.mem_map.mp hx
        rfl
      have hcl2 : cs.length ≤ 12 := by omega
      have hcl1 : 1 ≤ cs.length := by omega
      refine ⟨_, D, _, rfl, rfl, .inl (SqL.of eD), ?_, ?_⟩
      · rw [sum_ones _ ho, List.length_map]
        show cs.length + cs.length * 0 ≤ 16777216
        omega
      · have ebase : (Txt.join (Str.ofString "") (cs.map fun c => (⟨#[c]⟩ : Str))).cps.toList = cs := join_ones cs
        generalize Txt.join (Str.ofString "") (cs.map fun c => (⟨#[c]⟩ : Str)) = bs at ebase
        have hbl : bs.length = cs.length := by rw [str_len, ebase]
        have T3 := T2
        have sml : ∀ k : Nat, k ≤ 12 → k ≤ sizeLine := fun k hk => Nat.le_trans hk (by decide)
        refine ⟨_, rfl, _, rfl, _, _, rfl, ⟨sml _ (by omega), rfl⟩, t, ca, _, n + 1 + (1 + d).toNat, rfl, T2, by omega, by omega, by omega, fun spot H3 s0 s1 k3 T3 => ?_⟩
        refine ⟨_, rfl, t, ca, _, _, rfl, T3, by decide, by decide, by omega, fun first H4 f0 f1 k4 T4 => ?_⟩
        refine ⟨_, _, rfl, ?_⟩
        refine ⟨_, rfl, by decide, fun q hq => ?_⟩
        generalize e : upd _ q _ = H5
        obtain ⟨e5, k5⟩ := newF e hq
        have T5 := T4.kp0 k5
        refine ⟨t, ca, q, [.int 3, .int 5, .int 7, .int 9, .int 11, .int 15, .int 17, .int 25], _, rfl, T5, e5, by decide, by decide, by omega, fun ib vb H6 hvb k6 T6 => ?_⟩
        obtain ⟨b, rfl, hb⟩ : ∃ b : Nat, vb = .int (b : Int) ∧ (b = 3 ∨ b = 5 ∨ b = 7 ∨ b = 9 ∨ b = 11 ∨ b = 15 ∨ b = 17 ∨ b = 25) := by
          have z := List.mem_of_getElem? hvb
          simp only [List.mem_cons, List.not_mem_nil, or_false] at z
          rcases z with rfl | rfl | rfl | rfl | rfl | rfl | rfl | rfl
          · exact ⟨3, rfl, by decide⟩
          · exact ⟨5, rfl, by decide⟩
          · exact ⟨7, rfl, by decide⟩
          · exact ⟨9, rfl, by decide⟩
          · exact ⟨11, rfl, by decide⟩
          · exact ⟨15, rfl, by decide⟩
          · exact ⟨17, rfl, by decide⟩
          · exact ⟨25, rfl, by decide⟩
        refine ⟨_, rfl, t, ca, _, _, rfl, T6, by decide, by decide, by omega, fun short H7 sh0 sh1 k7 T7 => ?_⟩
        refine ⟨_, _, rfl, by decide, fun F hF => ?_⟩
        generalize e : upd _ F _ = H8
        obtain ⟨e8, k8⟩ := newF e hF
        have T8 := T7.kp0 k8
        have k28 : Kp [t] H H8 := (((((k2.trans k3).trans k4).trans k5.any).trans k6).trans k7).trans k8.any
        have hFt : F ≠ t := by
          obtain ⟨_, _, _, h1, _⟩ := T7.ex
          exact (ne_of_none h1 hF).symm
        have hF0 : H F = none := ((((((k2.trans k3).trans k4).trans k5.any).trans k6).trans k7)).free (n1 hFt) hF
        have hFca : F ≠ ca := by
          obtain ⟨_, _, _, _, h1, _⟩ := T7.ex
          exact (ne_of_none h1 hF).symm
        obtain ⟨sp, rfl⟩ : ∃ sp : Nat, spot = sp := ⟨spot.toNat, (Int.toNat_of_nonneg s0).symm⟩
        obtain ⟨fi, rfl⟩ : ∃ sp : Nat, first = sp := ⟨first.toNat, (Int.toNat_of_nonneg f0).symm⟩
        have hsp : sp < cs.length := by omega
        refine ⟨_, rfl, many, rfl, by omega, by omega, ?_⟩
        refine for_it walk_range (fun i σ' H' => (∃ kv bv, σ' = [some (.ref t), some (.int many), some (.str "abcdefghijklmnopqrstuvwxyz"), kv, some (.str bs), some (.int sp), some (.int fi), some (.int b), some (.int short), some (.ref F), bv]) ∧
          ∃ ns : List Str, ns.length = i ∧ H' F = some (.lst (ns.map V.str)) ∧ Kp [t] H H' ∧ Tape H' t ca (n + 1 + (1 + d).toNat + 1 + 1 + 1 + 1) ∧
            ∀ (j : Nat) (x : Str), ns[j]? = some x → ∃ bh : List Nat, x.cps.toList = cs.take sp ++ [97 + (fi + b * j) % 26] ++ bh ∧ bh.length ≤ cs.length - (sp + 1) ∧ ∀ c ∈ bh, 97 ≤ c ∧ c ≤ 122) ?_ (fun _ _ _ _ _ => trivial) ?_ ?_
        · exact ⟨⟨_, _, rfl⟩, [], rfl, e8, k28, T8, fun j x hx => by simp at hx⟩
        · rintro i x σ' H9 H10 hi ⟨⟨kv, bv, rfl⟩, ns, hnl, eF, k9, T9, hall⟩ ⟨rfl, rfl⟩
          have hcut : ∀ c ∈ cs.drop (sp + 1), 97 ≤ c ∧ c ≤ 122 := fun c hc => hcs c (List.mem_of_mem_drop hc)
          have hcl3 : (cs.drop (sp + 1)).length = cs.length - (sp + 1) := List.length_drop
          have ed : (cutS bs (some ((sp : Int) + 1)) none).cps.toList = cs.drop (sp + 1) := by
            have z := cut_from bs (sp + 1)
            rw [ebase] at z
            exact z
          refine ⟨_, rfl, rfl, _, rfl, ?_⟩
          have mulC : CMulW (b : Int) (0 + (i : Int)) := wide_mul (a := 8) (b := 8) (by omega) (by omega) (by decide) (by decide) (by decide)
          have letB : (((fi : Int) + (b : Int) * (0 + (i : Int))) % 26).toNat < 26 := by omega
          have letE : (97 + (((fi : Int) + (b : Int) * (0 + (i : Int))) % 26).toNat) = 97 + (fi + b * i) % 26 := by
            rw [show ((fi : Int) + (b : Int) * (0 + (i : Int))) = ((fi + b * i : Nat) : Int) by simp]
            omega
          refine ite2 (fun cc => ?_) (fun cc => ?_)
          · refine ⟨_, rfl, _, rfl, _, _, rfl, rfl, _, rfl, _, rfl, sml _ (by omega), ?_⟩
            generalize cutS bs (some ((sp : Int) + 1)) none = bh at ed
            have hb1 : bh.cps.toList.length ≤ cs.length - (sp + 1) := by rw [ed]; omega
            have hb2 : ∀ c ∈ bh.cps.toList, 97 ≤ c ∧ c ≤ 122 := by rw [ed]; exact hcut
            refine ⟨_, rfl, tyL eF, _, rfl, _, rfl, _, rfl, _, rfl, sml _ (by omega), _, rfl, _, rfl, _, rfl, _, rfl, _, _, rfl, rfl, mulC, _, _, rfl, rfl, _, _, rfl, rfl, (by decide : (0 : Int) < 26), _, _, _, rfl, rfl, ab_len, at_nn (Int.emod_nonneg _ (by decide)) (ab_at letB), _, _, rfl, rfl, ?_, _, rfl, _, _, rfl, rfl, ?_, F, _, _, rfl, rfl, eF, by rw [List.length_map]; exact small1000 (by omega), ?_⟩
            · refine Nat.le_trans ?_ (by decide : 100 ≤ sizeLine)
              rw [str_len, cut_to, ebase, List.length_take]
              show min sp cs.length + 1 ≤ 100
              omega
            · refine Nat.le_trans ?_ (by decide : 100 ≤ sizeLine)
              rw [str_len, str_len bh, app_toList, cut_to, ebase, List.length_append, List.length_take]
              show min sp cs.length + 1 + bh.cps.toList.length ≤ 100
              omega
            · generalize e : upd _ F _ = H11
              obtain ⟨e11, k11⟩ := putL e eF
              obtain ⟨nm, e12, enm⟩ : ∃ nm : Str, H11 F = some (.lst ((ns ++ [nm]).map V.str)) ∧ nm.cps.toList = cs.take sp ++ [97 + (fi + b * i) % 26] ++ bh.cps.toList := by
                refine ⟨_, e11.trans (by rw [List.map_append]; rfl), ?_⟩
                rw [app_toList, app_toList, cut_to, ebase, letE]
              refine ⟨⟨_, _, rfl⟩, ns ++ [nm], by rw [List.length_append, hnl]; rfl, e12, k9.mut k11 hF0, T9.kp k11 (n1 hFt.symm) (n1 hFca.symm), ?_⟩
              · intro j x hx
                by_cases hj : j < ns.length
                · rw [List.getElem?_append_left hj] at hx
                  exact hall j x hx
                · rw [List.getElem?_append_right (by omega)] at hx
                  obtain ⟨hj0, hx⟩ := sing_get hx
                  have hji : j = i := by omega
                  subst hji
                  subst hx
                  exact ⟨bh.cps.toList, enm, hb1, hb2⟩
          · have i4 : (0 + (i : Int)) % 4 = ((i % 4 : Nat) : Int) := by omega
            refine ⟨_, rfl, _, rfl, _, _, rfl, rfl, _, rfl, _, rfl, sml _ (by omega), _, rfl, _, _, rfl, rfl, (by decide : (0 : Int) < 4), _, rfl, _, rfl, sml _ (by rw [str_len, ed]; omega), ?_⟩
            rw [i4]
            generalize cutS bs (some ((sp : Int) + 1)) none = bg at ed
            have eh := cut_to bg (i % 4)
            generalize cutS bg none (some ((i % 4 : Nat) : Int)) = bh at eh
            have hb1 : bh.cps.toList.length ≤ cs.length - (sp + 1) := by rw [eh, ed, List.length_take]; omega
            have hb2 : ∀ c ∈ bh.cps.toList, 97 ≤ c ∧ c ≤ 122 := by rw [eh, ed]; exact fun c hc => hcut c (List.mem_of_mem_take hc)
            refine ⟨_, rfl, tyL eF, _, rfl, _, rfl, _, rfl, _, rfl, sml _ (by omega), _, rfl, _, rfl, _, rfl, _, rfl, _, _, rfl, rfl, mulC, _, _, rfl, rfl, _, _, rfl, rfl, (by decide : (0 : Int) < 26), _, _, _, rfl, rfl, ab_len, at_nn (Int.emod_nonneg _ (by decide)) (ab_at letB), _, _, rfl, rfl, ?_, _, rfl, _, _, rfl, rfl, ?_, F, _, _, rfl, rfl, eF, by rw [List.length_map]; exact small1000 (by omega), ?_⟩
            · refine Nat.le_trans ?_ (by decide : 100 ≤ sizeLine)
              rw [str_len, cut_to, ebase, List.length_take]
              show min sp cs.length + 1 ≤ 100
              omega
            · refine Nat.le_trans ?_ (by decide : 100 ≤ sizeLine)
              rw [str_len, str_len bh, app_toList, cut_to, ebase, List.length_append, List.length_take]
              show min sp cs.length + 1 + bh.cps.toList.length ≤ 100
              omega
            · generalize e : upd _ F _ = H11
              obtain ⟨e11, k11⟩ := putL e eF
              obtain ⟨nm, e12, enm⟩ : ∃ nm : Str, H11 F = some (.lst ((ns ++ [nm]).map V.str)) ∧ nm.cps.toList = cs.take sp ++ [97 + (fi + b * i) % 26] ++ bh.cps.toList := by
                refine ⟨_, e11.trans (by rw [List.map_append]; rfl), ?_⟩
                rw [app_toList, app_toList, cut_to, ebase, letE]
              refine ⟨⟨_, _, rfl⟩, ns ++ [nm], by rw [List.length_append, hnl]; rfl, e12, k9.mut k11 hF0, T9.kp k11 (n1 hFt.symm) (n1 hFca.symm), ?_⟩
              · intro j x hx
                by_cases hj : j < ns.length
                · rw [List.getElem?_append_left hj] at hx
                  exact hall j x hx
                · rw [List.getElem?_append_right (by omega)] at hx
                  obtain ⟨hj0, hx⟩ := sing_get hx
                  have hji : j = i := by omega
                  subst hji
                  subst hx
                  exact ⟨bh.cps.toList, enm, hb1, hb2⟩
        · rintro σ' H9 ⟨⟨kv, bv, rfl⟩, ns, hnl, eF, k9, T9, hall⟩
          refine ⟨_, rfl, k F ns H9 hF0 eF k9 (T9.le (by omega)) hnl ?_ ?_⟩
          · refine List.pairwise_iff_getElem.mpr fun i j hi hj hij e => ?_
            obtain ⟨bi, ei, _⟩ := hall i ns[i] (List.getElem?_eq_getElem hi)
            obtain ⟨bj, ej, _⟩ := hall j ns[j] (List.getElem?_eq_getElem hj)
            rw [e, ej] at ei
            exact name_nd (bh := fun k => if k = i then bi else bj) hsp hb hij (by omega) (by simp [Nat.ne_of_gt hij]; simpa using ei.symm)
          · intro x hx
            obtain ⟨j, hj, rfl⟩ := List.getElem_of_mem hx
            obtain ⟨bj, ej, l1, l2⟩ := hall j ns[j] (List.getElem?_eq_getElem hj)
            refine ⟨?_, ?_, ?_⟩
            · rw [ej, List.length_append, List.length_append]
              show 1 ≤ _ + 1 + _
              omega
            · rw [ej, List.length_append, List.length_append, List.length_take]
              show _ + 1 + _ ≤ 12
              omega
            · intro c hc
              rw [ej] at hc
              rcases List.mem_append.mp hc with hc | hc
              · rcases List.mem_append.mp hc with hc | hc
                · exact hcs c (List.mem_of_mem_take hc)
                · rw [List.mem_singleton.mp hc]
                  omega
              · exact l2 c hc
end
end K57
set_option Elab.async false
set_option linter.all false
set_option maxRecDepth 100000
set_option maxHeartbeats 4000000
namespace K57
open PySem L2 Pw
/-- things with a level laid behind their first -/
def spRanked : Sp := fun vs H Q _ => ∃ (t ca l : Addr) (items : List (PyData × List PyData)) (n : Nat), vs = [.ref t, .ref l] ∧ Tape H t ca n ∧ LD H l (items.map fun p => .tuple (p.1 :: p.2)) ∧ items.length ≤ 26 ∧
  (∀ p ∈ items, Okd 4 (.tuple (p.1 :: p.2)) ∧ p.2 ≠ [] ∧ p.2.length ≤ 20) ∧ n ≤ 900000 ∧
  ∀ (f : Addr) (tr : List (PyData × Int × List PyData)) (H' : Hp), H f = none → Kp [t] H H' → Tape H' t ca (n + 2 * items.length) → LD H' f (tr.map fun p => .tuple (p.1 :: .int p.2.1 :: p.2.2)) →
    (tr.map fun p => (p.1, p.2.2)).Perm items → (∀ p ∈ tr, 1 ≤ p.2.1 ∧ p.2.1 ≤ 78) → (tr.map fun p => p.2.1).Pairwise (· < ·) → Q (.ref f) H'
section
variable {P : Program} {w : World} {K : PySem.W.Frag} {mg : Str → Option Value} {base : Heap}
theorem ok_law_ranked (T : Txt K mg) : ∃ fd, FnOk P w K mg base CX0 2 (He.ga K "_law_ranked") fd ["tape", "things"] spRanked ∧ Binds K fd ["tape", "things"] [] := by
  obtain ⟨fd, F⟩ := T.f_law_ranked
  obtain ⟨_, G__law_draw, b__law_draw⟩ := ok_law_draw (P := P) (w := w) (base := base) T
  refine ⟨fd, F.ok sc_law_ranked (fun vs H Q E h => ?_) (fun cdv A outer s H vs Q E hr h => ?_), F.bindsN fun _ _ _ _ _ _ us hl => match us, hl with | [_, _], _ => rfl⟩
  · obtain ⟨t, ca, l, items, n, rfl, _⟩ := h
    rfl
  · obtain ⟨t, ca, l, items, n, rfl, TT, hl, hlen, hok, hn, k⟩ := h
    refine ⟨_, PSs.nox (pss_cons (ps_par3 (i := 2) (j := 3) (l := 4) (by rfl) sc_law_ranked.nd rfl rfl rfl (by decide) (by decide) (by decide) rfl rfl rfl (pa_cons (pe_callTy call_list_of (by rfl) T.b_list (by decide +kernel) (pa_cons (pv 1) pa_nil)) (pa_cons (pe_lst pa_nil) (pa_cons pe_int pa_nil))) (by rfl))
      (pss_cons (ps_while PassesOwn.never (pt_cmpR (op_neD hr.units) (pv 2) (pe_lst pa_nil) (nomark _))
          (pss_cons (ps_set (i := 4) sc_law_ranked.nd rfl (Or.inl rfl) (pe_op op_add (pe_op op_add (pv 4) pe_int) (pe_call G__law_draw (hr.mono (by decide)) rfl T.g__law_draw T.k__law_draw b__law_draw .nil pass0 (pa_cons (pv 0) (pa_cons pe_int pa_nil)))))
          (pss_cons (ps_set (i := 5) sc_law_ranked.nd rfl (Or.inl rfl) (pe_bm PySem.F.plainAttrs_list PySem.F.slot_list_pop PySem.F.type_list_pop mt_popAt (pv 2) (pa_cons (pe_call G__law_draw (hr.mono (by decide)) rfl T.g__law_draw T.k__law_draw b__law_draw .nil pass0 (pa_cons (pv 0) (pa_cons (pe_callB call_len (by rfl) T.b_len (by decide +kernel) (pa_cons (pv 2) pa_nil)) pa_nil))) pa_nil)))
          (pss_one (ps_expr (pe_bm PySem.F.plainAttrs_list PySem.F.slot_list_append PySem.F.type_list_append mt_append (pv 3) (pa_cons (pe_op op_catT (pe_tup (pa_cons (pe_ix ix_tup (pv 5) pe_int (fun _ _ => rfl)) (pa_cons (pv 4) pa_nil))) (pe_slice sl_tup (pv 5) (po_some pe_int) po_none)) pa_nil)))))))
      (pss_one (ps_ret (pv 3))))), ?_⟩
    obtain ⟨vs, hv, hds⟩ := hl.ex
    refine ⟨_, rfl, l, vs, rfl, .inl (SqL.of hv), fun L hL => ?_⟩
    generalize e : upd _ L _ = H1
    obtain ⟨e1, k1⟩ := newF e hL
    refine ⟨by decide, fun F hF => ?_⟩
    generalize e : upd _ F _ = H2
    obtain ⟨e2, k2⟩ := newF e hF
    refine ⟨_, _, _, rfl, ?_⟩
    have hF0 : H F = none := k1.free0 hF
    have hLF : L ≠ F := ne_of_none e1 hF
    have hLt : L ≠ t := by
      obtain ⟨_, _, _, h1, _⟩ := TT.ex
      exact (ne_of_none h1 hL).symm
    have hLca : L ≠ ca := by
      obtain ⟨_, _, _, _, h1, _⟩ := TT.ex
      exact (ne_of_none h1 hL).symm
    have hFt : F ≠ t := by
      obtain ⟨_, _, _, h1, _⟩ := TT.ex
      exact (ne_of_none h1 hF0).symm
    have hFca : F ≠ ca := by
      obtain ⟨_, _, _, _, h1, _⟩ := TT.ex
      exact (ne_of_none h1 hF0).symm
    refine while_by (fun σ' H' => ∃ (lev : Int) (ov : Option V) (lt : List (PyData × List PyData)) (tr : List (PyData × Int × List PyData)),
        σ' = [some (.ref t), some (.ref l), some (.ref L), some (.ref F), some (.int lev), ov] ∧ LD H' L (lt.map fun p => .tuple (p.1 :: p.2)) ∧ LD H' F (tr.map fun p => .tuple (p.1 :: .int p.2.1 :: p.2.2)) ∧
        Kp [t] H H' ∧ Tape H' t ca (n + 2 * tr.length) ∧ ((tr.map fun p => (p.1, p.2.2)) ++ lt).Perm items ∧ 0 ≤ lev ∧ lev ≤ 3 * tr.length ∧ (∀ p ∈ tr, 1 ≤ p.2.1 ∧ p.2.1 ≤ lev) ∧ (tr.map fun p => p.2.1).Pairwise (· < ·))
      (fun _ H' => lenAt H' L) ?_ ?_ (fun σ H Q Q' m q => ne_nil_mono m q)
    · refine ⟨0, _, items, [], rfl, ⟨_, k2.lst e1 n0, (hds.kp k1).kp k2⟩, ⟨_, e2, .nil⟩, (k1.trans k2).any, TT.kp0 (k1.trans k2), List.Perm.refl _, by decide, by decide, fun _ h => (nomatch h), .nil⟩
    · rintro σ' H3 ⟨lev, ov, lt, tr, rfl, hL3, hF3, k3, T3, hp, l0, l1, htr, hpw⟩
      have hokl : ∀ p ∈ lt, Okd 4 (.tuple (p.1 :: p.2)) ∧ p.2 ≠ [] ∧ p.2.length ≤ 20 := fun p hpm => hok p (hp.mem_iff.mp (List.mem_append.mpr (.inr hpm)))
      have hcount := hp.length_eq
      rw [List.length_append, List.length_map] at hcount
      refine ne_nil_step rfl hL3 (fun d hd => ?_) (fun hnil H4 k4 => ?_) (fun hnil H4 k4 => ?_)
      · obtain ⟨p, hpm, rfl⟩ := List.mem_map.mp hd
        exact ⟨(hokl p hpm).1.1, Nat.le_trans (hokl p hpm).1.2 (by decide)⟩
      · have hlt : lt = [] := by
          cases lt with
          | nil => rfl
          | cons _ _ => cases hnil
        subst hlt
        rw [List.append_nil] at hp
        exact ⟨_, rfl, k F tr H4 hF0 (k3.trans k4.any) ((T3.kp0 k4).le (by simp at hcount; omega)) (hF3.kp k4 n0) hp (fun p hpm => ⟨(htr p hpm).1, by have := (htr p hpm).2; omega⟩) hpw⟩
      · obtain ⟨xs, ex, hxs⟩ := (hL3.kp k4 n0).ex
        have hxl : xs.length = lt.length := by rw [hxs.len, List.length_map]
        have hpos : 0 < lt.length := by
          cases lt with
          | nil => exact absurd rfl hnil
          | cons _ _ => exact Nat.succ_pos _
        have T4 := T3.kp0 k4
        refine ⟨_, rfl, _, _, rfl, rfl, _, rfl, t, ca, _, _, rfl, T4, by decide, by decide, by omega, fun dl H5 dl0 dl1 k5 T5 => ?_⟩
        refine ⟨_, _, rfl, rfl, ?_⟩
        have ex5 := k5.lst ex (n1 hLt)
        have hxs5 := hxs.kp k5
        refine ⟨_, rfl, tyL ex5, _, rfl, _, rfl, _, _, rfl, .inl ⟨_, SqL.of ex5, rfl⟩, t, ca, _, _, rfl, T5, by omega, by omega, by omega, fun di H6 di0 di1 k6 T6 => ?_⟩
        have ex6 := k6.lst ex5 (n1 hLt)
        have hxs6 := hxs5.kp k6
        have hlti : di.toNat < xs.length := by omega
        refine ⟨L, xs, di, _, xs[di.toNat], rfl, rfl, ex6, by omega, by omega, seqIx di0 di1, List.getElem?_eq_getElem hlti, ?_⟩
        generalize e : upd _ L _ = H7
        obtain ⟨e7, k7⟩ := putL e ex6
        obtain ⟨dd, hdd, hdt⟩ := hxs6.get (List.getElem?_eq_getElem hlti)
        rw [List.getElem?_map] at hdd
        obtain ⟨⟨px, pr⟩, hpx, rfl⟩ := Option.map_eq_some_iff.mp hdd
        have T7 := T6.kp k7 (n1 hLt.symm) (n1 hLca.symm)
        obtain ⟨oa, ys, eo, hoa, hys⟩ := (hdt.kp k7).tup_inv
        rw [eo]
        obtain ⟨v0, vr, rfl, hv0, hvr⟩ := hys.cons_inv
        have hmem := hokl _ (List.mem_of_getElem? hpx)
        have hvrl := hvr.len
        have hF7 := (((hF3.kp k4 n0).kp k5 (n1 hFt)).kp k6 (n1 hFt)).kp k7 (n1 hLF.symm)
        obtain ⟨fs, ef7, hfs⟩ := hF7.ex
        refine ⟨_, rfl, tyL ef7, _, rfl, ⟨oa, _, _, _, rfl, rfl, SqT.of hoa, at_of (j := 0) rfl rfl, _, rfl, (by decide : 2 ≤ sizeLine), fun p hp8 => ?_⟩⟩
        generalize e : upd _ p _ = H8
        obtain ⟨e8, k8⟩ := newF e hp8
        refine ⟨_, rfl, _, rfl, oa, _, rfl, SqT.of (k8.tup _ _ hoa), cut_tail_in _ _, fun q hq9 => ?_⟩
        rw [cut_tail]
        generalize e : upd _ q _ = H9
        obtain ⟨e9, k9⟩ := newF e hq9
        have hvrn : vr ≠ [] := by
          rintro rfl
          exact hmem.2.1 (List.length_eq_zero_iff.mp hvrl.symm)
        have hvr20 : vr.length ≤ 20 := by rw [hvrl]; exact hmem.2.2
        refine ⟨p, q, _, _, rfl, rfl, SqT.of (k9.tup _ _ e8), SqT.of e9, (fun z => nomatch z), ?_, fun z => absurd z hvrn, fun _ r hr10 => ?_⟩
        · exact Nat.le_trans (Nat.add_le_add_left hvr20 _) (by decide : 2 + 20 ≤ sizeLine)
        · generalize e : upd _ r _ = H10
          obtain ⟨e10, k10⟩ := newF e hr10
          have k70 : Kp [] H7 H10 := (k8.trans k9).trans k10
          have ef10 := k70.lst ef7 n0
          have hfl := hfs.len
          rw [List.length_map] at hfl
          refine ⟨F, fs, _, rfl, rfl, ef10, by rw [hfl]; exact small1000 (by omega), ?_⟩
          generalize e : upd _ F _ = H11
          obtain ⟨e11, k11⟩ := putL e ef10
          have hd11 : DTs H11 (fs ++ [V.ref r]) ((tr.map fun p => PyData.tuple (p.1 :: .int p.2.1 :: p.2.2)) ++ [PyData.tuple (px :: .int (lev + 1 + dl) :: pr)]) :=
            (hfs.kp (k70.trans (Kp.refl _ _)) |>.kp k11).app (.one (.tup (k11.tup _ _ e10) (.cons (hv0.kp k70 |>.kp k11) (.cons (.int _) (hvr.kp k70 |>.kp k11)))))
          have hxs11 := hxs6.erase di.toNat |>.kp k7 |>.kp k70 |>.kp k11
          rw [erase_map] at hxs11
          have htl : (tr ++ [(px, lev + 1 + dl, pr)]).length = tr.length + 1 := by rw [List.length_append]; rfl
          have e7b : H11 L = some (.lst (xs.eraseIdx di.toNat)) := k11.lst (k70.lst e7 n0) (n1 hLF)
          have kall : Kp [t] H H11 := (((((k3.trans k4.any).trans k5).trans k6).mut k7 hL).trans k70.any).mut k11 hF0
          refine ⟨⟨lev + 1 + dl, _, lt.eraseIdx di.toNat, tr ++ [(px, lev + 1 + dl, pr)], rfl, ⟨_, e7b, hxs11⟩, ⟨_, e11, ?_⟩, kall, ?_, ?_, by omega, by rw [htl]; omega, ?_, ?_⟩, ?_⟩
          · rw [List.map_append]
            exact hd11
          · rw [htl]
            exact ((T7.kp0 k70).kp k11 (n1 hFt.symm) (n1 hFca.symm)).le (by omega)
          · rw [List.map_append, List.append_assoc]
            exact (List.Perm.append_left _ (erase_perm hpx)).trans hp
          · intro p hpm
            rcases List.mem_append.mp hpm with h | h
            · have := htr p h
              omega
            · rw [List.mem_singleton.mp h]
              show 1 ≤ lev + 1 + dl ∧ lev + 1 + dl ≤ lev + 1 + dl
              omega
          · rw [List.map_append]
            refine List.pairwise_append.mpr ⟨hpw, List.pairwise_singleton _ _, fun a ha b hb => ?_⟩
            obtain ⟨p, hpm, rfl⟩ := List.mem_map.mp ha
            rw [List.map_cons, List.map_nil] at hb
            rw [List.mem_singleton.mp hb]
            have := htr p hpm
            show p.2.1 < lev + 1 + dl
            omega
          · show lenAt H11 L < lenAt H3 L
            obtain ⟨xs3, ex3, hxs3⟩ := hL3.ex
            rw [lenAt_of e7b, lenAt_of ex3, hxs3.len, List.length_map, List.length_eraseIdx, if_pos hlti]
            omega
end
end K57
set_option Elab.async false
set_option linter.all false
set_option maxRecDepth 100000
set_option maxHeartbeats 4000000
namespace K57
open PySem L2 Pw
/-- a row of a message -/
structure RowD where
  name : Str
  rank : Int
  gap : Int
  most : Int
  due : Int
  wait : Int
def RowD.d (r : RowD) : PyData := .tuple [.str r.name, .int r.rank, .int r.gap, .int r.most, .int r.due, .int r.wait, .tuple []]
structure RowD.Ok (r : RowD) : Prop where
  name : NameOk r.name
  rank : 1 ≤ r.rank ∧ r.rank ≤ 78
  gap : 1 ≤ r.gap ∧ r.gap ≤ 2 ^ 32
  most : 1 ≤ r.most ∧ r.most ≤ 4
  due : 1 ≤ r.due ∧ r.due ≤ r.gap
  wait : 0 ≤ r.wait ∧ r.wait ≤ 2 ^ 32
structure RowsOk (rows : List RowD) : Prop where
  ok : ∀ r ∈ rows, r.Ok
  names : (rows.map (·.name)).Nodup
  ranks : (rows.map (·.rank)).Pairwise (· < ·)
def RowD.it (r : RowD) : PyData × List PyData := (.str r.name, [.int r.gap, .int r.most, .int r.due, .int r.wait, .tuple []])
theorem perm_map_inv {α β : Type} {f : α → β} {m x : List β} (h : m.Perm x) : ∀ {l : List α}, x = l.map f → ∃ l' : List α, l'.Perm l ∧ m = l'.map f := by
  induction h with
  | nil =>
    intro l e
    cases l with
    | nil => exact ⟨[], List.Perm.refl _, rfl⟩
    | cons _ _ => cases e
  | cons a _ ih =>
    intro l e
    cases l with
    | nil => cases e
    | cons b r =>
      rw [List.map_cons] at e
      injection e with e1 e2
      obtain ⟨r', p, q⟩ := ih e2
      exact ⟨b :: r', p.cons b, by rw [List.map_cons, ← q, e1]⟩
  | swap a b l0 =>
    intro l e
    cases l with
    | nil => cases e
    | cons p r =>
      cases r with
      | nil => cases e
      | cons q r =>
        rw [List.map_cons, List.map_cons] at e
        injection e with e1 e2
        injection e2 with e2 e3
        exact ⟨q :: p :: r, List.Perm.swap p q r, by rw [List.map_cons, List.map_cons, ← e1, ← e2, ← e3]⟩
  | trans _ _ ih1 ih2 =>
    intro l e
    obtain ⟨l1, p1, q1⟩ := ih2 e
    obtain ⟨l2, p2, q2⟩ := ih1 q1
    exact ⟨l2, p2.trans p1, q2⟩
theorem rows_of : ∀ (tr : List (PyData × Int × List PyData)) (r0 : List RowD), (tr.map fun p => (p.1, p.2.2)) = r0.map RowD.it →
    ∃ rows : List RowD, rows.map RowD.d = tr.map (fun p => .tuple (p.1 :: .int p.2.1 :: p.2.2)) ∧ rows.map (·.rank) = tr.map (fun p => p.2.1) ∧ rows.map (·.name) = r0.map (·.name) ∧ ∀ r ∈ rows, ∃ q ∈ r0, r = { q with rank := r.rank }
  | [], [], _ => ⟨[], rfl, rfl, rfl, fun _ h => nomatch h⟩
  | [], _ :: _, h => by cases h
  | _ :: _, [], h => by cases h
  | (x, l, r) :: tr, q :: r0, h => by
    rw [List.map_cons, List.map_cons] at h
    injection h with h1 h2
    obtain ⟨rows, e1, e2, e3, e4⟩ := rows_of tr r0 h2
    refine ⟨{ q with rank := l } :: rows, ?_, ?_, ?_, ?_⟩
    · injection h1 with h3 h4
      rw [List.map_cons, List.map_cons, e1]
      show PyData.tuple _ :: _ = PyData.tuple (x :: .int l :: r) :: _
      have h3 : x = .str q.name := h3
      have h4 : r = [.int q.gap, .int q.most, .int q.due, .int q.wait, .tuple []] := h4
      rw [h3, h4]
    · rw [List.map_cons, List.map_cons, e2]
    · rw [List.map_cons, List.map_cons, e3]
    · intro p hp
      rcases List.mem_cons.mp hp with rfl | hp
      · exact ⟨q, List.mem_cons_self .., rfl⟩
      · obtain ⟨q', hq, e⟩ := e4 p hp
        exact ⟨q', List.mem_cons_of_mem _ hq, e⟩
theorem pick3 {x y z : Int} {i : Nat} {v : V} (h : [V.int x, .int y, .int z][i]? = some v) (P : Int → Prop) (hx : P x) (hy : P y) (hz : P z) : ∃ b, v = .int b ∧ P b := by
  have m := List.mem_of_getElem? h
  simp only [List.mem_cons, List.not_mem_nil, or_false] at m
  rcases m with rfl | rfl | rfl
  · exact ⟨_, rfl, hx⟩
  · exact ⟨_, rfl, hy⟩
  · exact ⟨_, rfl, hz⟩
def spRows : Sp := fun vs H Q _ => ∃ (t ca : Addr) (many wide late : Int) (n : Nat), vs = [.ref t, .int many, .int wide, .int late] ∧ Tape H t ca n ∧ 0 ≤ many ∧ many ≤ 26 ∧ 1 ≤ wide ∧ wide ≤ 2 ^ 20 ∧ 1 ≤ late ∧ late ≤ 2 ^ 20 ∧ n ≤ 800000 ∧
  ∀ (f : Addr) (rows : List RowD) (H' : Hp), H f = none → Kp [t] H H' → Tape H' t ca (n + 400) → LD H' f (rows.map RowD.d) → rows.length = many.toNat → RowsOk rows → Q (.ref f) H'
section
variable {P : Program} {w : World} {K : PySem.W.Frag} {mg : Str → Option Value} {base : Heap}
-- slots: 0 tape, 1 many, 2 wide, 3 late, 4 some, 5 called, 6 long, 7 far, 8 between, 9 owed, 10 lateness
theorem ok_law_rows (T : Txt K mg) : ∃ fd, FnOk P w K mg base CX0 4 (He.ga K "_law_rows") fd ["tape", "many", "wide", "late"] spRows ∧ Binds K fd ["tape", "many", "wide", "late"] [] := by
  obtain ⟨fd, F⟩ := T.f_law_rows
  obtain ⟨_, G__law_draw, b__law_draw⟩ := ok_law_draw (P := P) (w := w) (base := base) T
  obtain ⟨_, G__law_names, b__law_names⟩ := ok_law_names (P := P) (w := w) (base := base) T
  obtain ⟨_, G__law_pick, b__law_pick⟩ := ok_law_pick (P := P) (w := w) (base := base) T
  obtain ⟨_, G__law_ranked, b__law_ranked⟩ := ok_law_ranked (P := P) (w := w) (base := base) T
  refine ⟨fd, F.ok sc_law_rows (fun vs H Q E h => ?_) (fun cdv A outer s H vs Q E hr h => ?_), F.bindsN fun _ _ _ _ _ _ us hl => match us, hl with | [_, _, _, _], _ => rfl⟩
  · obtain ⟨t, ca, many, wide, late, n, rfl, _⟩ := h
    rfl
  · obtain ⟨t, ca, many, wide, late, n, rfl, TT, hm0, hm1, hw0, hw1, hl0, hl1, hn, k⟩ := h
    refine ⟨_, PSs.nox (pss_cons (ps_set (i := 4) sc_law_rows.nd rfl (Or.inl rfl) (pe_lst pa_nil))
      (pss_cons (ps_for PassesOwn.never rfl (pi_list (pe_call G__law_names (hr.mono (by decide)) rfl T.g__law_names T.k__law_names b__law_names .nil pass0 (pa_cons (pv 0) (pa_cons (pv 1) pa_nil)))) (pg_name (i := 5) sc_law_rows.nd rfl (Or.inl rfl))
          (pss_cons (ps_set (i := 6) sc_law_rows.nd rfl (Or.inl rfl) (pe_op op_add pe_int (pe_call G__law_draw (hr.mono (by decide)) rfl T.g__law_draw T.k__law_draw b__law_draw .nil pass0 (pa_cons (pv 0) (pa_cons pe_int pa_nil)))))
          (pss_cons (ps_set (i := 7) sc_law_rows.nd rfl (Or.inl rfl) (pe_op op_add (pv 2) (pe_call G__law_draw (hr.mono (by decide)) rfl T.g__law_draw T.k__law_draw b__law_draw .nil pass0 (pa_cons (pv 0) (pa_cons (pv 2) pa_nil)))))
          (pss_cons (ps_set (i := 8) sc_law_rows.nd rfl (Or.inl rfl) (pe_call G__law_pick (hr.mono (by decide)) rfl T.g__law_pick T.k__law_pick b__law_pick .nil pass0 (pa_cons (pv 0) (pa_cons (pe_lst (pa_cons (pe_op op_add (pv 6) (pe_call G__law_draw (hr.mono (by decide)) rfl T.g__law_draw T.k__law_draw b__law_draw .nil pass0 (pa_cons (pv 0) (pa_cons (pv 2) pa_nil)))) (pa_cons (pv 7) (pa_cons (pe_op op_add pe_int (pe_call G__law_draw (hr.mono (by decide)) rfl T.g__law_draw T.k__law_draw b__law_draw .nil pass0 (pa_cons (pv 0) (pa_cons pe_int pa_nil)))) pa_nil)))) pa_nil))))
          (pss_cons (ps_set (i := 9) sc_law_rows.nd rfl (Or.inl rfl) (pe_call G__law_pick (hr.mono (by decide)) rfl T.g__law_pick T.k__law_pick b__law_pick .nil pass0 (pa_cons (pv 0) (pa_cons (pe_lst (pa_cons (pv 8) (pa_cons (pv 8) (pa_cons (pe_op op_add pe_int (pe_call G__law_draw (hr.mono (by decide)) rfl T.g__law_draw T.k__law_draw b__law_draw .nil pass0 (pa_cons (pv 0) (pa_cons (pv 8) pa_nil)))) pa_nil)))) pa_nil))))
          (pss_cons (ps_set (i := 10) sc_law_rows.nd rfl (Or.inl rfl) (pe_call G__law_pick (hr.mono (by decide)) rfl T.g__law_pick T.k__law_pick b__law_pick .nil pass0 (pa_cons (pv 0) (pa_cons (pe_lst (pa_cons pe_int (pa_cons (pe_call G__law_draw (hr.mono (by decide)) rfl T.g__law_draw T.k__law_draw b__law_draw .nil pass0 (pa_cons (pv 0) (pa_cons (pv 3) pa_nil))) (pa_cons (pe_call G__law_draw (hr.mono (by decide)) rfl T.g__law_draw T.k__law_draw b__law_draw .nil pass0 (pa_cons (pv 0) (pa_cons (pv 8) pa_nil))) pa_nil)))) pa_nil))))
          (pss_one (ps_expr (pe_bm PySem.F.plainAttrs_list PySem.F.slot_list_append PySem.F.type_list_append mt_append (pv 4) (pa_cons (pe_tup (pa_cons (pv 5) (pa_cons (pv 8) (pa_cons (pv 6) (pa_cons (pv 9) (pa_cons (pv 10) (pa_cons (pe_tup pa_nil) pa_nil))))))) pa_nil))))))))))
      (pss_one (ps_ret (pe_call G__law_ranked (hr.mono (by decide)) rfl T.g__law_ranked T.k__law_ranked b__law_ranked .nil pass0 (pa_cons (pv 0) (pa_cons (pv 4) pa_nil))))))), ?_⟩
    refine ⟨by decide, fun S hS => ?_⟩
    generalize e : upd _ S _ = H1
    obtain ⟨e1, k1⟩ := newF e hS
    have hSt : S ≠ t := by
      obtain ⟨_, _, _, h1, _⟩ := TT.ex
      exact (ne_of_none h1 hS).symm
    have hSca : S ≠ ca := by
      obtain ⟨_, _, _, _, h1, _⟩ := TT.ex
      exact (ne_of_none h1 hS).symm
    refine ⟨_, rfl, _, rfl, t, ca, many, n, rfl, TT.kp0 k1, hm0, hm1, by omega, fun L names H2 hL eL k2 T2 hnl hnd hnok => ?_⟩
    have hLS : L ≠ S := (ne_of_none e1 hL).symm
    have hLt : L ≠ t := by
      obtain ⟨_, _, _, h1, _⟩ := (TT.kp0 k1).ex
      exact (ne_of_none h1 hL).symm
    refine ⟨L, rfl, ⟨_, SqL.of eL⟩, ?_⟩
    refine for_it (walk_list (xs := names.map V.str)) (fun i σ' H' => (∃ a b c d e f, σ' = [some (.ref t), some (.int many), some (.int wide), some (.int late), some (.ref S), a, b, c, d, e, f]) ∧ H' L = some (.lst (names.map V.str)) ∧
      ∃ r0 : List RowD, r0.map (·.name) = names.take i ∧ LD H' S ((r0.map RowD.it).map fun p => .tuple (p.1 :: p.2)) ∧ Kp [t] H H' ∧ Tape H' t ca (n + 17 + 10 * i) ∧ ∀ r ∈ r0, { r with rank := 1 }.Ok) ?_ (fun i σ' H' _ h => SqL.of h.2.1) ?_ ?_
    · exact ⟨⟨_, _, _, _, _, _, rfl⟩, eL, [], rfl, ⟨_, k2.lst e1 (n1 hSt), .nil⟩, k1.any.trans k2, T2.le (by omega), fun _ h => nomatch h⟩
    · rintro i x σ' H3 H4 hi ⟨⟨a, b, c, d, e, f, rfl⟩, eL3, r0, hr0, hS3, k3, T3, hok3⟩ ⟨rfl, hx⟩
      rw [List.length_map] at hi
      rw [List.getElem?_map, List.getElem?_eq_getElem hi] at hx
      obtain rfl : V.str names[i] = x := by simpa using hx
      refine ⟨_, rfl, t, ca, _, _, rfl, T3, by decide, by decide, by omega, fun lo H5 lo0 lo1 k5 T5 => ?_⟩
      refine ⟨_, _, rfl, rfl, ?_⟩
      refine ⟨_, rfl, _, rfl, _, rfl, t, ca, _, _, rfl, T5, by omega, by omega, by omega, fun fr H6 fr0 fr1 k6 T6 => ?_⟩
      refine ⟨_, _, rfl, rfl, ?_⟩
      refine ⟨_, rfl, _, rfl, _, rfl, _, rfl, t, ca, _, _, rfl, T6, by omega, by omega, by omega, fun b1 H7 b10 b11 k7 T7 => ?_⟩
      refine ⟨_, _, rfl, rfl, _, rfl, _, rfl, t, ca, _, _, rfl, T7, by decide, by decide, by omega, fun b2 H8 b20 b21 k8 T8 => ?_⟩
      refine ⟨_, _, rfl, rfl, (by decide : 3 ≤ sizeLine), fun p hp => ?_⟩
      generalize e : upd _ p _ = H9
      obtain ⟨e9, k9⟩ := newF e hp
      refine ⟨t, ca, p, _, _, rfl, T8.kp0 k9, e9, (by decide : 1 ≤ 3), (by decide : 3 ≤ 1000000), by omega, fun i1 v1 H10 hv1 k10 T10 => ?_⟩
      obtain ⟨bt, rfl, bt0, bt1⟩ := pick3 hv1 (fun b => 1 ≤ b ∧ b ≤ 2 ^ 32) (by omega) (by omega) (by omega)
      refine ⟨_, rfl, _, rfl, _, rfl, _, rfl, _, rfl, t, ca, _, _, rfl, T10, by omega, by omega, by omega, fun b3 H11 b30 b31 k11 T11 => ?_⟩
      refine ⟨_, _, rfl, rfl, (by decide : 3 ≤ sizeLine), fun p2 hp2 => ?_⟩
      generalize e : upd _ p2 _ = H12
      obtain ⟨e12, k12⟩ := newF e hp2
      refine ⟨t, ca, p2, _, _, rfl, T11.kp0 k12, e12, (by decide : 1 ≤ 3), (by decide : 3 ≤ 1000000), by omega, fun i2 v2 H13 hv2 k13 T13 => ?_⟩
      obtain ⟨ow, rfl, ow0, ow1⟩ := pick3 hv2 (fun b => 1 ≤ b ∧ b ≤ bt) (by omega) (by omega) (by omega)
      refine ⟨_, rfl, _, rfl, _, rfl, t, ca, _, _, rfl, T13, by omega, by omega, by omega, fun b4 H14 b40 b41 k14 T14 => ?_⟩
      refine ⟨_, rfl, _, rfl, t, ca, _, _, rfl, T14, by omega, by omega, by omega, fun b5 H15 b50 b51 k15 T15 => ?_⟩
      refine ⟨(by decide : 3 ≤ sizeLine), fun p3 hp3 => ?_⟩
      generalize e : upd _ p3 _ = H16
      obtain ⟨e16, k16⟩ := newF e hp3
      refine ⟨t, ca, p3, _, _, rfl, T15.kp0 k16, e16, (by decide : 1 ≤ 3), (by decide : 3 ≤ 1000000), by omega, fun i3 v3 H17 hv3 k17 T17 => ?_⟩
      obtain ⟨wa, rfl, wa0, wa1⟩ := pick3 hv3 (fun b => 0 ≤ b ∧ b ≤ 2 ^ 32) (by omega) (by omega) (by omega)
      have kk : Kp [t] H4 H17 := ((((((((((k5.trans k6).trans k7).trans k8).trans k9.any).trans k10).trans k11).trans k12.any).trans k13).trans k14).trans k15).trans (k16.any.trans k17)
      have hS17 := hS3.kp kk (n1 hSt)
      obtain ⟨ss, es, hss⟩ := hS17.ex
      refine ⟨_, rfl, tyL es, _, rfl, _, rfl, _, rfl, _, rfl, _, rfl, by decide, fun q1 hq1 => ?_⟩
      generalize e : upd _ q1 _ = H18
      obtain ⟨e18, k18⟩ := newF e hq1
      refine ⟨(by decide : 6 ≤ sizeLine), fun q2 hq2 => ?_⟩
      generalize e : upd _ q2 _ = H19
      obtain ⟨e19, k19⟩ := newF e hq2
      have es19 := (k18.trans k19).lst es n0
      have hsl := hss.len
      rw [List.length_map, List.length_map] at hsl
      have hr0l : r0.length = i := by
        have z := congrArg List.length hr0
        rw [List.length_map, List.length_take] at z
        omega
      refine ⟨S, ss, _, rfl, rfl, es19, by rw [hsl]; exact small1000 (by omega), ?_⟩
      generalize e : upd _ S _ = H20
      obtain ⟨e20, k20⟩ := putL e es19
      have k4_20 : Kp [t] H H20 := ((k3.trans kk).trans (k18.trans k19).any).mut k20 hS
      have eL20 := k20.lst ((k18.trans k19).lst (kk.lst eL3 (n1 hLt)) n0) (n1 hLS)
      refine ⟨⟨_, _, _, _, _, _, rfl⟩, eL20, r0 ++ [⟨names[i], 0, bt, 1 + lo, ow, wa⟩], ?_, ⟨_, e20, ?_⟩, k4_20, ?_, ?_⟩
      · rw [List.map_append, hr0]
        exact (List.take_succ_eq_append_getElem hi).symm
      · rw [List.map_append, List.map_append]
        exact (hss.kp ((k18.trans k19).trans (Kp.refl _ _)) |>.kp k20).app (.one (.tup (k20.tup _ _ e19) (.cons (.str _) (.cons (.int _) (.cons (.int _) (.cons (.int _) (.cons (.int _) (.cons (.tup (k20.tup _ _ (k19.tup _ _ e18)) .nil) .nil))))))))
      · exact (((T17.kp0 (k18.trans k19)).kp k20 (n1 hSt.symm) (n1 hSca.symm))).le (by omega)
      · intro r hr
        rcases List.mem_append.mp hr with h | h
        · exact hok3 r h
        · rw [List.mem_singleton.mp h]
          exact ⟨hnok _ (List.getElem_mem hi), (by decide : (1 : Int) ≤ 1 ∧ (1 : Int) ≤ 78), ⟨bt0, bt1⟩, (by show 1 ≤ 1 + lo ∧ 1 + lo ≤ 4; omega), ⟨ow0, ow1⟩, ⟨wa0, wa1⟩⟩
    · rintro σ' H3 ⟨⟨a, b, c, d, e, f, rfl⟩, eL3, r0, hr0, hS3, k3, T3, hok3⟩
      rw [List.length_map, hnl] at T3
      have hr0l : r0.length = many.toNat := by
        have z := congrArg List.length hr0
        rw [List.length_map, List.length_take, List.length_map] at z
        omega
      refine ⟨_, rfl, _, rfl, t, ca, S, r0.map RowD.it, _, rfl, T3, hS3, by rw [List.length_map]; omega, fun p hp => ?_, by omega, fun f tr H4 hf k4 T4 hf4 hperm htr hpw => ?_⟩
      · obtain ⟨r, hr, rfl⟩ := List.mem_map.mp hp
        have ok := hok3 r hr
        refine ⟨Okd.tuple (okd_cons (.str ok.name.ok) (okd_cons (.int _) (okd_cons (.int _) (okd_cons (.int _) (okd_cons (.int _) (okd_cons (Okd.tuple (k := 2) okd_nil) okd_nil)))))), (fun z => nomatch z), (by decide : 5 ≤ 20)⟩
      · obtain ⟨r1, hr1, er1⟩ := perm_map_inv hperm rfl
        obtain ⟨rows, g1, g2, g3, g4⟩ := rows_of tr r1 er1
        have hlen : rows.length = many.toNat := by
          have z := congrArg List.length g3
          rw [List.length_map, List.length_map, hr1.length_eq] at z
          omega
        rw [← g1] at hf4
        refine k f rows H4 (k3.free (n1 ?_) hf) (k3.trans k4) (T4.le (by rw [List.length_map]; omega)) hf4 hlen ⟨?_, ?_, ?_⟩
        · rintro rfl
          obtain ⟨_, _, _, h1, _⟩ := T3.ex
          rw [hf] at h1
          cases h1
        · intro r hr
          obtain ⟨q, hq, e⟩ := g4 r hr
          have ok := hok3 q (hr1.mem_iff.mp hq)
          have hrk : 1 ≤ r.rank ∧ r.rank ≤ 78 := by
            have z : r.rank ∈ tr.map (fun p => p.2.1) := by
              rw [← g2]
              exact List.mem_map.mpr ⟨r, hr, rfl⟩
            obtain ⟨p, hp, e⟩ := List.mem_map.mp z
            rw [← e]
            exact htr p hp
          rw [e]
          exact ⟨ok.name, hrk, ok.gap, ok.most, ok.due, ok.wait⟩
        · rw [g3]
          refine ((hr1.map _).nodup_iff).mpr ?_
          rw [hr0]
          exact hnd.sublist (List.take_sublist _ _)
        · rw [g2]
          exact hpw
end
end K57
set_option Elab.async false
set_option linter.all false
set_option maxRecDepth 100000
set_option maxHeartbeats 4000000
namespace K57
open PySem L2 Pw
theorem nameOk_len {x : Str} (h : NameOk x) : 1 ≤ x.length ∧ x.length ≤ 12 := by
  rw [str_len]
  exact ⟨h.1, h.2.1⟩
def spIsName : Sp := fun vs H Q _ => ∃ x : Str, vs = [.str x] ∧ NameOk x ∧ ∀ H', Kp [] H H' → Q (.bl true) H'
def spWhole : Sp := fun vs H Q _ => ∃ i least : Int, vs = [.int i, .int least] ∧ Q (.bl (decide (least ≤ i))) H
def spSecs : Sp := fun vs H Q _ => ∃ (p : Addr) (m : Int), vs = [.ref p, .int m] ∧ H p = some (.tup []) ∧ ∀ H', Kp [] H H' → Q (.bl true) H'
section
variable {P : Program} {w : World} {K : PySem.W.Frag} {mg : Str → Option Value} {base : Heap}
-- slots: 0 thing, 1 sign(own)
theorem ok_is_name (T : Txt K mg) : ∃ fd, FnOk P w K mg base CX0 1 (He.ga K "is_name") fd ["thing"] spIsName ∧ Binds K fd ["thing"] [] := by
  obtain ⟨fd, F⟩ := T.f_is_name
  obtain ⟨_, hc_LETTERS⟩ := T.c_LETTERS
  obtain ⟨_, hc_LONGEST_NAME⟩ := T.c_LONGEST_NAME
  refine ⟨fd, F.ok sc_is_name (fun vs H Q E h => ?_) (fun cdv A outer s H vs Q E hr h => ?_), F.bindsN fun _ _ _ _ _ _ us hl => match us, hl with | [_], _ => rfl⟩
  · obtain ⟨x, rfl, _⟩ := h
    rfl
  · obtain ⟨x, rfl, hx, k⟩ := h
    refine ⟨_, PSs.nox (pss_cons (ps_if (PW.pt (pw_or (pt_not (pt_val (pe_callB call_isi (by rfl) T.b_isinstance (by decide +kernel) (pa_cons (pv 0) (pa_cons (pe_bltn (v := .ty "str") (by rfl) T.b_str (by decide +kernel) rfl) pa_nil))))) (pw_or1 (pt_not (pt_chain (op_le) (op_le) pe_int (pe_callB call_len (by rfl) T.b_len (by decide +kernel) (pa_cons (pv 0) pa_nil)) (pe_glob (v := .int 12) rfl hc_LONGEST_NAME ⟨_, rfl⟩))))))
          (pss_one (ps_ret pe_bl))
          pss_nil)
      (pss_one (ps_ret (pe_callB (cr_all rfl) (by rfl) T.b_all (by decide +kernel) (pa_cons (pe_lc (own := [("sign", 1)]) rfl sc_is_name.nd (pi_str (pv 0)) (blkOk_by (N := N_is_name) (sc := defScope s_is_name) (by decide +kernel)) (fun _ _ _ _ _ => (pg_name (i := 1) sc_is_name.nd rfl (Or.inl rfl))) (fun _ _ _ _ _ => pts_nil) (fun _ _ _ _ _ => (pe_cmpR (op_in_sign) (pv 1) (pe_glob (v := .str "abcdefghijklmnopqrstuvwxyz") rfl hc_LETTERS ⟨_, rfl⟩) rfl))) pa_nil))))), ?_⟩
    obtain ⟨hl1, hl2⟩ := nameOk_len hx
    refine ⟨_, rfl, _, _, _, _, true, rfl, .ty _, .base (.str _), kit_ty rfl, _, rfl, ?_⟩
    refine ⟨_, rfl, _, _, rfl, ⟨Nat.le_trans hl2 (by decide), rfl⟩, _, _, rfl, rfl, true, congrArg V.bl (decide_eq_true (by omega)), ?_⟩
    refine ⟨_, _, rfl, rfl, true, congrArg V.bl (decide_eq_true (by omega)), ?_⟩
    refine ⟨_, rfl, x, rfl, fun D hD => ?_⟩
    refine lc_it walk_str (fun i H' => H' D = some (.lst ((List.replicate i true).map V.bl)) ∧ Kp [] H H') ?_ (fun _ _ _ _ => trivial) ?_ ?_
    · generalize e : upd _ D _ = H1
      exact newF e hD
    · rintro i y H1 H2 hi ⟨eD, k1⟩ ⟨rfl, c, hc, rfl⟩
      have hc2 : 97 ≤ c ∧ c ≤ 122 := hx.2.2 c (by
        rw [Array.mem_toList_iff]
        exact Array.mem_of_getElem? hc)
      refine ⟨rfl, _, rfl, c, _, rfl, rfl, _, eD, (by rw [List.length_map, List.length_replicate]; exact small1000 (by rw [str_len] at hl2; simp at hl2; omega)), ?_⟩
      generalize e : upd _ D _ = H3
      obtain ⟨e3, k3⟩ := putL e eD
      refine ⟨?_, k1.mut k3 hD⟩
      rw [e3, decide_eq_true (show c ∈ ("abcdefghijklmnopqrstuvwxyz" : Str).cps.toList from ?_), List.replicate_succ', List.map_append]
      · rfl
      · exact List.mem_of_getElem? (i := c - 97) (by rw [ab_at (by omega)]; congr 1; omega)
    · rintro H1 ⟨eD, k1⟩
      refine ⟨D, _, rfl, SqL.of eD, ?_⟩
      rw [show (List.replicate x.cps.size true).all id = true by simp]
      exact k H1 k1
-- slots: 0 thing, 1 least
theorem ok_is_whole (T : Txt K mg) : ∃ fd, FnOk P w K mg base CX0 1 (He.ga K "is_whole") fd ["thing", "least"] spWhole ∧ (∃ ds, Vals [V.int 0] ds ∧ Binds K fd ["thing", "least"] ds) ∧ ∃ g gV, KBn K fd ["thing", "least"] 1 ["least"] g gV ∧ ∀ a b, gV [a] [b] = [a, b] := by
  obtain ⟨fd, F⟩ := T.f_is_whole
  refine ⟨fd, F.ok sc_is_whole (fun vs H Q E h => ?_) (fun cdv A outer s H vs Q E hr h => ?_), F.binds0 1 (by decide) rfl fun D doc pm an cdv ct us ks h1 h2 => match us, ks, h1, h2 with | [_], [_], _, _ => ⟨_, _, _, _, _, _, rfl, rfl, rfl⟩, ?_⟩
  rotate_left 2
  · obtain ⟨mv, b⟩ := F.kbinds0 (ps := ["thing", "least"]) 1 ["least"] [] (fun vs _ zs => vs ++ zs) (by decide) (fun _ h => nomatch h) (fun r1 _ r3 => r1.append r3) (fun D doc pm an cdv ct us mv ws h1 h2 h3 => match us, mv, ws, h1, h2, h3 with | [_], [], [_], _, _, _ => rfl)
    exact ⟨_, _, b, fun _ _ => rfl⟩
  · obtain ⟨i, least, rfl, _⟩ := h
    rfl
  · obtain ⟨i, least, rfl, k⟩ := h
    refine ⟨_, PSs.nox (pss_one (ps_ret (pe_and (pe_callB call_isi (by rfl) T.b_isinstance (by decide +kernel) (pa_cons (pv 0) (pa_cons (pe_bltn (v := .ty "int") (by rfl) T.b_int (by decide +kernel) rfl) pa_nil))) (pe_and (pe_not (pe_callB call_isi (by rfl) T.b_isinstance (by decide +kernel) (pa_cons (pv 0) (pa_cons (pe_bltn (v := .ty "bool") (by rfl) T.b_bool (by decide +kernel) rfl) pa_nil)))) (pe_one (pe_cmpR (op_ge) (pv 0) (pv 1) (nomark _))))))), ?_⟩
    refine ⟨_, rfl, _, _, _, _, true, rfl, .ty _, .base (.int _), kit_ty rfl, _, rfl, ?_⟩
    refine ⟨_, rfl, _, _, _, _, false, rfl, .ty _, .base (.int _), kit_ty rfl, _, rfl, _, rfl, ?_⟩
    exact ⟨_, rfl, _, rfl, _, _, rfl, rfl, k⟩
-- slots: 0 thing(cell), 1 most(cell), 2 at(own), 3 other(own), 4 one(own)
theorem ok_are_sections (T : Txt K mg) : ∃ fd, FnOk P w K mg base CX0 2 (He.ga K "are_sections") fd ["thing", "most"] spSecs ∧ Binds K fd ["thing", "most"] [] := by
  obtain ⟨fd, F⟩ := T.f_are_sections
  refine ⟨fd, F.ok sc_are_sections (fun vs H Q E h => ?_) (fun cdv A outer s H vs Q E hr h => ?_), F.bindsN fun _ _ _ _ _ _ us hl => match us, hl with | [_, _], _ => rfl⟩
  · obtain ⟨p, m, rfl, _⟩ := h
    rfl
  · obtain ⟨p, m, rfl, hp, k⟩ := h
    refine ⟨_, PSs.nox (pss_cons (ps_if (PW.pt (pw_or (pt_not (pt_val (pe_callB call_isiT (by rfl) T.b_isinstance (by decide +kernel) (pa_cons (pv 0) (pa_cons (pe_tup (pa_cons (pe_bltn (v := .ty "tuple") (by rfl) T.b_tuple (by decide +kernel) rfl) (pa_cons (pe_bltn (v := .ty "list") (by rfl) T.b_list (by decide +kernel) rfl) pa_nil))) pa_nil))))) (pw_or1 (pt_not (pt_val (pe_callB (cr_all rfl) (by rfl) T.b_all (by decide +kernel) (pa_cons (pe_lc (own := [("one", 4)]) rfl sc_are_sections.nd (pi_tup (pv 0)) (blkOk_by (N := N_are_sections) (sc := defScope s_are_sections) (by decide +kernel)) (fun _ _ _ _ _ => (pg_name (i := 4) sc_are_sections.nd rfl (Or.inl rfl))) (fun _ _ _ _ _ => pts_nil) (fun _ _ _ _ _ => pe_never)) pa_nil)))))))
          (pss_one (ps_ret pe_bl))
          pss_nil)
      (pss_one (ps_ret (pe_callB (cr_all rfl) (by rfl) T.b_all (by decide +kernel) (pa_cons (pe_lc2 (own := [("at", 2), ("other", 3)]) (vs1 := [3]) rfl sc_are_sections.nd (pi_range1 rfl T.b_range (pa_cons (pe_callB call_len (by rfl) T.b_len (by decide +kernel) (pa_cons (pv 0) pa_nil)) pa_nil)) (blkOk_by (N := N_are_sections) (sc := defScope s_are_sections) (by decide +kernel)) (by decide) (fun _ _ _ _ _ => (pg_name (i := 2) sc_are_sections.nd rfl (Or.inl rfl))) (fun _ _ _ _ _ => pts_nil) (fun _ _ _ _ _ => pi_never) (fun _ _ _ _ _ => (pg_name (i := 3) sc_are_sections.nd rfl (Or.inl rfl))) (fun _ _ _ _ _ => pts_nil) (fun _ _ _ _ _ => pe_never)) pa_nil))))), ?_⟩
    refine ⟨_, rfl, by decide, fun q hq => ?_⟩
    generalize e : upd _ q _ = H1
    obtain ⟨e1, k1⟩ := newF e hq
    have hp1 := k1.tup _ _ hp
    refine ⟨_, q, _, _, _, true, rfl, e1, .cons (.ty _) (.cons (.ty _) .nil), .base (.tup hp1), kitAny_cons (kit_ty rfl) (fun z => nomatch z) (fun _ => rfl), _, rfl, ?_⟩
    refine ⟨_, rfl, p, rfl, ⟨_, SqT.of hp1⟩, fun D hD => ?_⟩
    refine lc_it (te := fun _ _ _ => False) (walk_tup (K := K) (xs := [])) (fun i H' => H' D = some (.lst []) ∧ Kp [] H H' ∧ H' p = some (.tup [])) ?_ (fun _ _ _ h => SqT.of h.2.2) (fun i _ _ _ hi _ _ => absurd hi (Nat.not_lt_zero _)) ?_
    · generalize e : upd _ D _ = H2
      obtain ⟨e2, k2⟩ := newF e hD
      exact ⟨e2, k1.trans k2, k2.tup _ _ hp1⟩
    · rintro H2 ⟨eD, k2, hp2⟩
      refine ⟨D, [], rfl, SqL.of eD, true, rfl, ?_⟩
      refine ⟨_, rfl, _, _, rfl, .inr ⟨_, SqT.of hp2, rfl⟩, _, rfl, by decide, by decide, fun D2 hD2 => ?_⟩
      generalize e : upd _ D2 _ = H3
      obtain ⟨e3, k3⟩ := newF e hD2
      refine ⟨fun i _ H' => i = 0 ∧ H' D2 = some (.lst []) ∧ Kp [] H H', ⟨0, rfl, e3, k2.trans k3⟩, ?_⟩
      rintro i m H4 ⟨rfl, e4, k4⟩
      exact .inl ⟨Nat.le_refl _, D2, [], rfl, SqL.of e4, k H4 k4⟩
end
end K57
set_option Elab.async false
set_option linter.all false
set_option maxRecDepth 100000
set_option maxHeartbeats 4000000
namespace K57
open PySem L2 Pw
def spBad : Sp := fun vs H Q _ => ∃ (name : Str) (rank gap most due wait : Int) (p : Addr), vs = [.str name, .int rank, .int gap, .int most, .int due, .int wait, .ref p] ∧ NameOk name ∧ 1 ≤ rank ∧ 1 ≤ gap ∧ 1 ≤ most ∧ (1 ≤ due ∧ due ≤ gap) ∧ 0 ≤ wait ∧ H p = some (.tup []) ∧
  ∀ H', Kp [] H H' → Q .non H'
section
variable {P : Program} {w : World} {K : PySem.W.Frag} {mg : Str → Option Value} {base : Heap}
-- slots: 0 name, 1 rank, 2 gap, 3 most, 4 due, 5 wait, 6 sections, 7 part, 8 number
theorem ok_bad_part (T : Txt K mg) : ∃ fd, FnOk P w K mg base CX0 3 (He.ga K "bad_part") fd ["name", "rank", "gap", "most", "due", "wait", "sections"] spBad ∧ Binds K fd ["name", "rank", "gap", "most", "due", "wait", "sections"] [] := by
  obtain ⟨fd, F⟩ := T.f_bad_part
  obtain ⟨_, G_are_sections, b_are_sections⟩ := ok_are_sections (P := P) (w := w) (base := base) T
  obtain ⟨_, G_is_name, b_is_name⟩ := ok_is_name (P := P) (w := w) (base := base) T
  obtain ⟨_, G_is_whole, ⟨_, r_is_whole, b_is_whole⟩, _, _, kb_is_whole, gv⟩ := ok_is_whole (P := P) (w := w) (base := base) T
  refine ⟨fd, F.ok sc_bad_part (fun vs H Q E h => ?_) (fun cdv A outer s H vs Q E hr h => ?_), F.bindsN fun _ _ _ _ _ _ us hl => match us, hl with | [_, _, _, _, _, _, _], _ => rfl⟩
  · obtain ⟨name, rank, gap, most, due, wait, p, rfl, _⟩ := h
    rfl
  · obtain ⟨name, rank, gap, most, due, wait, p, rfl, hn, hr1, hg, hm, hd, hw, hp, k⟩ := h
    refine ⟨_, PSs.nox (pss_cons (ps_if (pt_not (pt_val (pe_call G_is_name (hr.mono (by decide)) rfl T.g_is_name T.k_is_name b_is_name .nil pass0 (pa_cons (pv 0) pa_nil))))
          (pss_one (ps_ret pe_str))
          pss_nil)
      (pss_cons (ps_for PassesOwn.never rfl (pi_tup (pe_tup (pa_cons (pe_tup (pa_cons pe_str (pa_cons (pv 1) pa_nil))) (pa_cons (pe_tup (pa_cons pe_str (pa_cons (pv 2) pa_nil))) (pa_cons (pe_tup (pa_cons pe_str (pa_cons (pv 3) pa_nil))) pa_nil))))) (pg_tup rfl (pgs_cons (pg_name (i := 7) sc_bad_part.nd rfl (Or.inl rfl)) (pgs_cons (pg_name (i := 8) sc_bad_part.nd rfl (Or.inl rfl)) pgs_nil)))
          (pss_one (ps_if (pt_not (pt_val (pe_callN G_is_whole (hr.mono (by decide)) rfl T.g_is_whole T.k_is_whole kb_is_whole pass0 (pa_cons (pv 8) pa_nil) (pk_cons pe_int pk_nil))))
            (pss_one (ps_ret (pv 7)))
            pss_nil)))
      (pss_cons (ps_if (PW.pt (pw_and (pt_cmpR (op_notN) (pv 4) pe_non (nomark _)) (pw_and1 (pt_not (PW.pt (pw_and (pt_val (pe_callN G_is_whole (hr.mono (by decide)) rfl T.g_is_whole T.k_is_whole kb_is_whole pass0 (pa_cons (pv 4) pa_nil) (pk_cons pe_int pk_nil))) (pw_and1 (pt_cmpR (op_le) (pv 4) (pv 2) (nomark _)))))))))
          (pss_one (ps_ret pe_str))
          pss_nil)
      (pss_cons (ps_if (pt_not (pt_val (pe_call G_is_whole (hr.mono (by decide)) rfl T.g_is_whole T.k_is_whole b_is_whole r_is_whole pass0 (pa_cons (pv 5) pa_nil))))
          (pss_one (ps_ret pe_str))
          pss_nil)
      (pss_one (ps_ret (pe_ifExp (pt_val (pe_call G_are_sections (hr.mono (by decide)) rfl T.g_are_sections T.k_are_sections b_are_sections .nil pass0 (pa_cons (pv 6) (pa_cons (pv 3) pa_nil)))) pe_non pe_str))))))), ?_⟩
    refine ⟨_, rfl, name, rfl, hn, fun H1 k1 => ⟨true, rfl, ?_⟩⟩
    refine ⟨_, rfl, szb rfl, fun q1 hq1 => ?_⟩
    generalize e : upd _ q1 _ = H2
    obtain ⟨e2, k2⟩ := newF e hq1
    refine ⟨_, rfl, szb rfl, fun q2 hq2 => ?_⟩
    generalize e : upd _ q2 _ = H3
    obtain ⟨e3, k3⟩ := newF e hq2
    refine ⟨_, rfl, szb rfl, fun q3 hq3 => ?_⟩
    generalize e : upd _ q3 _ = H4
    obtain ⟨e4, k4⟩ := newF e hq3
    refine ⟨szb rfl, fun q4 hq4 => ?_⟩
    generalize e : upd _ q4 _ = H5
    obtain ⟨e5, k5⟩ := newF e hq4
    have k15 := (((k1.trans k2).trans k3).trans k4).trans k5
    have hall : ∀ x ∈ [V.ref q1, .ref q2, .ref q3], ∃ a z n, x = .ref a ∧ H5 a = some (.tup [.str z, .int n]) ∧ (1 : Int) ≤ n := by
      intro x hx
      simp only [List.mem_cons, List.not_mem_nil, or_false] at hx
      rcases hx with rfl | rfl | rfl
      · exact ⟨_, _, _, rfl, k5.tup _ _ (k4.tup _ _ (k3.tup _ _ e2)), hr1⟩
      · exact ⟨_, _, _, rfl, k5.tup _ _ (k4.tup _ _ e3), hg⟩
      · exact ⟨_, _, _, rfl, k5.tup _ _ e4, hm⟩
    refine ⟨q4, rfl, ⟨_, SqT.of e5⟩, ?_⟩
    refine for_it (walk_tup (K := K) (xs := [V.ref q1, .ref q2, .ref q3])) (fun i σ' H' => (∃ a b, σ' = [some (.str name), some (.int rank), some (.int gap), some (.int most), some (.int due), some (.int wait), some (.ref p), a, b]) ∧ Kp [] H5 H') ?_ (fun _ _ _ _ h => SqT.of (h.2.tup _ _ e5)) ?_ ?_
    · exact ⟨⟨_, _, rfl⟩, Kp.refl _ _⟩
    · rintro i x σ' H6 H7 hi ⟨⟨a, b, rfl⟩, k6⟩ ⟨rfl, hx⟩
      obtain ⟨a, z, n, rfl, ha, hn1⟩ := hall x (List.mem_of_getElem? hx)
      refine ⟨a, _, rfl, SqT.of (k6.tup _ _ ha), rfl, ?_⟩
      refine ⟨_, _, rfl, _, _, rfl, rfl, _, rfl, rfl, rfl, ?_⟩
      rw [gv]
      exact ⟨_, _, rfl, true, congrArg V.bl (decide_eq_true hn1), ⟨_, _, rfl⟩, k6⟩
    · rintro σ' H6 ⟨⟨a, b, rfl⟩, k6⟩
      refine ⟨_, rfl, rfl, true, rfl, _, rfl, rfl, rfl, ?_⟩
      rw [gv]
      refine ⟨_, _, rfl, true, congrArg V.bl (decide_eq_true hd.1), _, rfl, _, rfl, _, _, rfl, rfl, true, congrArg V.bl (decide_eq_true hd.2), ?_⟩
      refine ⟨_, rfl, _, _, rfl, true, congrArg V.bl (decide_eq_true hw), ?_⟩
      exact ⟨_, rfl, _, rfl, p, most, rfl, k6.tup _ _ (k15.tup _ _ hp), fun H7 k7 => ⟨true, rfl, k H7 ((k15.trans k6).trans k7)⟩⟩
end
end K57
set_option Elab.async false
set_option linter.all false
set_option maxRecDepth 100000
set_option maxHeartbeats 4000000
namespace K57
open PySem L2 Pw
theorem fl1000 {n : Nat} (h : Nat.ble (n + 1) 1000 = true) : n < 1000 := Nat.le_of_ble_eq_true h
def msgF (r : RowD) : List (Str × V) := [("name", .str r.name), ("rank", .int r.rank), ("gap", .int r.gap), ("most", .int r.most), ("due", .int r.due), ("wait", .int r.wait)]
def MsgAt (K : PySem.W.Frag) (H : Hp) (a : Addr) (r : RowD) : Prop := ∃ dx, H a = some (.ins (He.ga K "Message") dx (msgF r))
def spMsg (K : PySem.W.Frag) : Sp := fun vs H Q _ => ∃ (a dx : Addr) (r : RowD), vs = [.ref a, .str r.name, .int r.rank, .int r.gap, .int r.most, .int r.due, .int r.wait] ∧ r.Ok ∧ H a = some (.ins (He.ga K "Message") dx []) ∧
  ∀ H', Kp [a] H H' → MsgAt K H' a r → Q .non H'
section
variable {P : Program} {w : World} {K : PySem.W.Frag} {mg : Str → Option Value} {base : Heap}
-- slots: 0 self, 1 name, 2 rank, 3 gap, 4 most, 5 due, 6 wait, 7 bad
theorem ok_Message___init__ (T : Txt K mg) : ∃ fd, FnOk P w K mg base CX0 4 (He.ma K (He.ga K "Message") "__init__") fd ["self", "name", "rank", "gap", "most", "due", "wait"] (spMsg K) ∧ ∃ g gV, KBn K fd ["self", "name", "rank", "gap", "most", "due", "wait"] 2 ["rank", "gap", "most", "due", "wait"] g gV ∧ ∀ a b c d e f h, gV [a, b] [c, d, e, f, h] = [a, b, c, d, e, f, h] := by
  obtain ⟨fd, F⟩ := T.f_Message___init__
  obtain ⟨_, G_bad_part, b_bad_part⟩ := ok_bad_part (P := P) (w := w) (base := base) T
  refine ⟨fd, F.ok sc_Message___init__ (fun vs H Q E h => ?_) (fun cdv A outer s H vs Q E hr h => ?_), ?_⟩
  rotate_left 2
  · obtain ⟨mv, b⟩ := F.kbinds0 (ps := ["self", "name", "rank", "gap", "most", "due", "wait"]) 2 ["rank", "gap", "most", "due", "wait"] [] (fun vs _ zs => vs ++ zs) (by decide) (fun _ h => nomatch h) (fun r1 _ r3 => r1.append r3) (fun D doc pm an cdv ct us mv ws h1 h2 h3 => match us, mv, ws, h1, h2, h3 with | [_, _], [], [_, _, _, _, _], _, _, _ => rfl)
    exact ⟨_, _, b, fun _ _ _ _ _ _ _ => rfl⟩
  · obtain ⟨a, dx, r, rfl, _⟩ := h
    rfl
  · obtain ⟨a, dx, r, rfl, ok, ha, k⟩ := h
    refine ⟨_, PSs.nox (pss_cons (ps_set (i := 7) sc_Message___init__.nd rfl (Or.inl rfl) (pe_call G_bad_part (hr.mono (by decide)) rfl T.g_bad_part T.k_bad_part b_bad_part .nil pass0 (pa_cons (pv 1) (pa_cons (pv 2) (pa_cons (pv 3) (pa_cons (pv 4) (pa_cons (pv 5) (pa_cons (pv 6) (pa_cons (pe_tup pa_nil) pa_nil)))))))))
      (pss_cons (ps_if (pt_cmpR (op_notN) (pv 7) pe_non (nomark _))
          (pss_one ps_never)
          pss_nil)
      (pss_cons (ps_fld (pv 0) (pv 1) rfl)
      (pss_cons (ps_fld (pv 0) (pv 2) rfl)
      (pss_cons (ps_fld (pv 0) (pv 3) rfl)
      (pss_cons (ps_fld (pv 0) (pv 4) rfl)
      (pss_cons (ps_fld (pv 0) (pe_ifExp (pt_cmpR (op_isN) (pv 5) pe_non (nomark _)) (pv 3) (pv 5)) rfl)
      (pss_one (ps_fld (pv 0) (pv 6) rfl))))))))), ?_⟩
    refine ⟨_, rfl, _, rfl, _, rfl, _, rfl, _, rfl, _, rfl, szb rfl, fun q1 hq1 => ?_⟩
    generalize e : upd _ q1 _ = H1
    obtain ⟨e1, k1⟩ := newF e hq1
    refine ⟨r.name, r.rank, r.gap, r.most, r.due, r.wait, q1, rfl, ok.name, ok.rank.1, ok.gap.1, ok.most.1, ok.due, ok.wait.1, e1, fun H2 k2 => ?_⟩
    have ha2 := k2.ins (k1.ins ha n0) n0
    refine ⟨_, rfl, rfl, false, rfl, ?_⟩
    refine ⟨_, rfl, _, rfl, a, _, dx, _, rfl, ha2, T.cl_Message, T.na_Message_name, fl1000 rfl, ?_⟩
    generalize e : upd _ a _ = H3
    obtain ⟨e3, k3⟩ := putI e ha2
    refine ⟨_, rfl, _, rfl, a, _, dx, _, rfl, e3, T.cl_Message, T.na_Message_rank, fl1000 rfl, ?_⟩
    generalize e : upd _ a _ = H4
    obtain ⟨e4, k4⟩ := putI e e3
    refine ⟨_, rfl, _, rfl, a, _, dx, _, rfl, e4, T.cl_Message, T.na_Message_gap, fl1000 rfl, ?_⟩
    generalize e : upd _ a _ = H5
    obtain ⟨e5, k5⟩ := putI e e4
    refine ⟨_, rfl, _, rfl, a, _, dx, _, rfl, e5, T.cl_Message, T.na_Message_most, fl1000 rfl, ?_⟩
    generalize e : upd _ a _ = H6
    obtain ⟨e6, k6⟩ := putI e e5
    refine ⟨_, rfl, rfl, false, rfl, _, rfl, _, rfl, a, _, dx, _, rfl, e6, T.cl_Message, T.na_Message_due, fl1000 rfl, ?_⟩
    generalize e : upd _ a _ = H7
    obtain ⟨e7, k7⟩ := putI e e6
    refine ⟨_, rfl, _, rfl, a, _, dx, _, rfl, e7, T.cl_Message, T.na_Message_wait, fl1000 rfl, ?_⟩
    generalize e : upd _ a _ = H8
    obtain ⟨e8, k8⟩ := putI e e7
    exact k H8 (((((((k1.trans k2).any.trans k3).trans k4).trans k5).trans k6).trans k7).trans k8) ⟨dx, e8⟩
end
end K57
set_option Elab.async false
set_option linter.all false
set_option maxRecDepth 100000
set_option maxHeartbeats 4000000
namespace K57
open PySem L2 Pw
theorem valV_none_of {κ : Type} [DecidableEq κ] {k : κ} : ∀ {kvs : List (κ × V)}, (∀ p ∈ kvs, p.1 ≠ k) → valV kvs k = none
  | [], _ => rfl
  | p :: r, h => by rw [valV_neg (h p (List.mem_cons_self ..)), valV_none_of fun q hq => h q (List.mem_cons_of_mem _ hq)]
theorem valV_of_mem {κ : Type} [DecidableEq κ] {k : κ} {v : V} : ∀ {kvs : List (κ × V)}, (kvs.map (·.1)).Nodup → (k, v) ∈ kvs → valV kvs k = some v
  | [], _, h => by cases h
  | p :: r, nd, h => by
    rw [List.map_cons, List.nodup_cons] at nd
    rcases List.mem_cons.mp h with rfl | h
    · exact valV_pos rfl
    · rw [valV_neg (fun e => nd.1 (by rw [e]; exact List.mem_map.mpr ⟨_, h, rfl⟩))]
      exact valV_of_mem nd.2 h
def BusAt (K : PySem.W.Frag) (H : Hp) (b bn : Addr) (ms : List (Addr × RowD)) : Prop := ∃ dx br kvs, H b = some (.ins (He.ga K "Bus") dx [("by_name", .ref bn), ("by_rank", .ref br)]) ∧ H br = some (.tup (ms.map fun m => .ref m.1)) ∧
  H bn = some (.dK kvs) ∧ (∀ m ∈ ms, valV kvs (.inr m.2.name) = some (.ref m.1)) ∧ ∀ m ∈ ms, MsgAt K H m.1 m.2
theorem MsgAt.kp {K : PySem.W.Frag} {S : List Addr} {g : Bool} {H H' : Hp} {a : Addr} {r : RowD} (h : MsgAt K H a r) (k : Kg g S H H') (n : a ∉ S) : MsgAt K H' a r := by
  obtain ⟨dx, e⟩ := h
  exact ⟨dx, k.ins e n⟩
theorem BusAt.kp {K : PySem.W.Frag} {S : List Addr} {g : Bool} {H H' : Hp} {b bn : Addr} {ms : List (Addr × RowD)} (h : BusAt K H b bn ms) (k : Kg g S H H') (n : ∀ x ∈ b :: bn :: ms.map (·.1), x ∉ S) : BusAt K H' b bn ms := by
  obtain ⟨dx, br, kvs, h1, h2, h3, h4, h5⟩ := h
  refine ⟨dx, br, kvs, k.ins h1 (n _ (by simp)), k.tup _ _ h2, k.dk h3 (n _ (by simp)), h4, fun m hm => (h5 m hm).kp k (n _ ?_)⟩
  exact List.mem_cons_of_mem _ (List.mem_cons_of_mem _ (List.mem_map.mpr ⟨m, hm, rfl⟩))
theorem BusAt.known {K : PySem.W.Frag} {H : Hp} {b bn : Addr} {ms : List (Addr × RowD)} (h : BusAt K H b bn ms) : ∀ x ∈ b :: bn :: ms.map (·.1), H x ≠ none := by
  obtain ⟨dx, br, kvs, h1, h2, h3, h4, h5⟩ := h
  intro x hx
  rcases List.mem_cons.mp hx with rfl | hx
  · rw [h1]; simp
  · rcases List.mem_cons.mp hx with rfl | hx
    · rw [h3]; simp
    · obtain ⟨m, hm, rfl⟩ := List.mem_map.mp hx
      obtain ⟨d, e⟩ := h5 m hm
      rw [e]; simp
def spBus (K : PySem.W.Frag) : Sp := fun vs H Q _ => ∃ (a dx l : Addr) (ps : List (Addr × RowD)), vs = [.ref a, .ref l] ∧ H a = some (.ins (He.ga K "Bus") dx []) ∧ H l = some (.lst (ps.map fun m => .ref m.1)) ∧ (∀ m ∈ ps, MsgAt K H m.1 m.2 ∧ m.1 ≠ a) ∧
  (ps.map (·.2.name)).Nodup ∧ (ps.map (·.2.rank)).Nodup ∧ ps.length ≤ 60 ∧
  ∀ (H' : Hp) (bn : Addr) (ms : List (Addr × RowD)), H bn = none → Kp [a] H H' → ms.Perm ps → (ms.map (·.2.rank)).Pairwise (· ≤ ·) → BusAt K H' a bn ms → Q .non H'
section
variable {P : Program} {w : World} {K : PySem.W.Frag} {mg : Str → Option Value} {base : Heap}
-- slots: 0 self, 1 messages, 2 ranks(cell), 3 one, 4 rank(own)
theorem ok_Bus___init__ (T : Txt K mg) : ∃ fd, FnOk P w K mg base CX0 1 (He.ma K (He.ga K "Bus") "__init__") fd ["self", "messages"] (spBus K) ∧ Binds K fd ["self", "messages"] [] := by
  obtain ⟨fd, F⟩ := T.f_Bus___init__
  refine ⟨fd, F.ok sc_Bus___init__ (fun vs H Q E h => ?_) (fun cdv A outer s H vs Q E hr h => ?_), ?_⟩
  rotate_left 2
  · obtain ⟨ds, hd, hb⟩ := F.binds1 (ps := ["self", "messages"]) 2 1 (fun z => nomatch z) rfl (fun T doc kV pm an cdv ct us its h1 h2 => match us, its, h1, h2 with | [_, _], [_], _, _ => ⟨_, rfl, rfl⟩)
    cases hd
    exact hb
  · obtain ⟨a, dx, l, ps, rfl, _⟩ := h
    rfl
  · obtain ⟨a, dx, l, ps, rfl, ha, hl, hms, hnd, hrd, hlen, k⟩ := h
    have hu := hu_of hr
    refine ⟨_, PSs.nox (pss_cons (ps_fld (pv 0) pe_dnewK rfl)
      (pss_cons (ps_set (i := 2) sc_Bus___init__.nd rfl (Or.inr rfl) pe_dnewK)
      (pss_cons (ps_for PassesOwn.never rfl (pi_list (pv 1)) (pg_name (i := 3) sc_Bus___init__.nd rfl (Or.inl rfl))
          (pss_cons (ps_if (pt_cmp (pc_din hu (pe_fld (pv 3) rfl) (pe_fld (pv 0) rfl)))
              (pss_one ps_never)
              pss_nil)
          (pss_cons (ps_if (pt_cmp (pc_din hu (pe_fld (pv 3) rfl) (pv 2)))
              (pss_one ps_never)
              pss_nil)
          (pss_one (ps_asg2 (pv 3) (pg_sub (pe_fld (pv 0) rfl) (pe_fld (pv 3) rfl) (set_dict hu)) (pg_sub (pv 2) (pe_fld (pv 3) rfl) (set_dict hu)))))))
      (pss_one (ps_fld (pv 0) (pe_callTy call_tuple_of (by rfl) T.b_tuple (by decide +kernel) (pa_cons (pe_lc (own := [("rank", 4)]) rfl sc_Bus___init__.nd (pi_list (pe_callB (call_sortedDI rfl) (by rfl) T.b_sorted (by decide +kernel) (pa_cons (pv 2) pa_nil))) (blkOk_by (N := N_Bus___init__) (sc := defScope s_Bus___init__) (by decide +kernel)) (fun _ _ _ _ _ => (pg_name (i := 4) sc_Bus___init__.nd rfl (Or.inl rfl))) (fun _ _ _ _ _ => pts_nil) (fun _ _ _ _ _ => (pe_dget hu (pv 2) (pv 4) (fun _ _ => rfl)))) pa_nil)) rfl))))), ?_⟩
    have cB := T.cl_Bus
    have cM := T.cl_Message
    intro D1 hD1
    generalize e : upd _ D1 _ = H1
    obtain ⟨e1, k1⟩ := newF e hD1
    have ha1 := k1.ins ha n0
    refine ⟨_, rfl, a, _, dx, _, rfl, ha1, cB, T.na_Bus_by_name, fl1000 rfl, ?_⟩
    generalize e : upd _ a _ = H2
    obtain ⟨ea2, k2⟩ := putI e ha1
    intro D2 hD2
    generalize e : upd _ D2 _ = H3
    obtain ⟨e3, k3⟩ := newF e hD2
    have aD1 : a ≠ D1 := ne_of_none ha hD1
    have e1' := k3.dk (k2.dk e1 (n1 aD1.symm)) n0
    have aD2 : a ≠ D2 := ne_of_none ea2 hD2
    have D12 : D1 ≠ D2 := ne_of_none (k2.dk e1 (n1 aD1.symm)) hD2
    have la : l ≠ a := ne_of hl ha (fun z => nomatch z)
    have k03 : Kp [a] H H3 := (k1.any.trans k2).trans k3.any
    have hD20 : H D2 = none := (k1.any.trans k2).free (n1 aD2.symm) hD2
    refine ⟨_, rfl, l, rfl, ⟨_, SqL.of (k03.lst hl (n1 la))⟩, ?_⟩
    refine for_it (walk_list (K := K) (xs := ps.map fun m => V.ref m.1)) (fun i σ' H' => (∃ ov, σ' = [some (.ref a), some (.ref l), some (.ref D2), ov, none]) ∧ Kp [a] H H' ∧
      H' a = some (.ins (He.ga K "Bus") dx [("by_name", .ref D1)]) ∧ H' D1 = some (.dK ((ps.take i).map fun m => (.inr m.2.name, .ref m.1))) ∧ H' D2 = some (.dK ((ps.take i).map fun m => (.inl m.2.rank, .ref m.1)))) ?_ (fun _ _ _ _ h => SqL.of (h.2.1.lst hl (n1 la))) ?_ ?_
    · exact ⟨⟨_, rfl⟩, k03, k3.ins ea2 n0, e1', e3⟩
    · rintro i x σ' H4 H5 hi ⟨⟨ov, rfl⟩, k4, ea4, e14, e24⟩ ⟨rfl, hx⟩
      rw [List.length_map] at hi
      rw [List.getElem?_map, List.getElem?_eq_getElem hi] at hx
      obtain rfl : V.ref ps[i].1 = x := by simpa using hx
      have hmem : ps[i] ∈ ps := List.getElem_mem hi
      obtain ⟨dm, em⟩ := (hms _ hmem).1.kp k4 (n1 (hms _ hmem).2)
      have v1 : valV ((ps.take i).map fun m => ((.inr m.2.name : Key), V.ref m.1)) (.inr ps[i].2.name) = none := by
        refine valV_none_of fun p hp e => ?_
        obtain ⟨m, hm, rfl⟩ := List.mem_map.mp hp
        obtain ⟨j, hj, rfl⟩ := List.getElem_of_mem hm
        rw [List.length_take] at hj
        rw [List.getElem_take] at e
        have e : ps[j].2.name = ps[i].2.name := Sum.inr.inj e
        have := List.pairwise_iff_getElem.mp hnd j i (by rw [List.length_map]; omega) (by rw [List.length_map]; omega) (by omega)
        simp only [List.getElem_map] at this
        exact this e
      have v2 : valV ((ps.take i).map fun m => ((.inl m.2.rank : Key), V.ref m.1)) (.inl ps[i].2.rank) = none := by
        refine valV_none_of fun p hp e => ?_
        obtain ⟨m, hm, rfl⟩ := List.mem_map.mp hp
        obtain ⟨j, hj, rfl⟩ := List.getElem_of_mem hm
        rw [List.length_take] at hj
        rw [List.getElem_take] at e
        have e : ps[j].2.rank = ps[i].2.rank := Sum.inl.inj e
        have := List.pairwise_iff_getElem.mp hrd j i (by rw [List.length_map]; omega) (by rw [List.length_map]; omega) (by omega)
        simp only [List.getElem_map] at this
        exact this e
      have l1 : ((ps.take i).map fun m => ((.inr m.2.name : Key), V.ref m.1)).length < sizeLine := by
        rw [List.length_map, List.length_take]
        exact small1000 (by omega)
      have l2 : ((ps.take i).map fun m => ((.inl m.2.rank : Key), V.ref m.1)).length < sizeLine := by
        rw [List.length_map, List.length_take]
        exact small1000 (by omega)
      refine ⟨_, rfl, _, _, dm, _, _, rfl, em, cM, T.na_Message_name, rfl, ?_⟩
      refine ⟨_, rfl, a, _, dx, _, _, rfl, ea4, cB, T.na_Bus_by_name, rfl, D1, none, rfl, ?_, ?_⟩
      · have z := DGet.k (k := (.inr ps[i].2.name : Key)) e14
        rwa [v1] at z
      refine ⟨_, rfl, ?_⟩
      refine ⟨_, rfl, _, _, dm, _, _, rfl, em, cM, T.na_Message_rank, rfl, ?_⟩
      refine ⟨_, rfl, D2, none, rfl, ?_, ?_⟩
      · have z := DGet.k (k := (.inl ps[i].2.rank : Key)) e24
        rwa [v2] at z
      refine ⟨_, rfl, _, rfl, ?_⟩
      refine ⟨_, rfl, a, _, dx, _, _, rfl, ea4, cB, T.na_Bus_by_name, rfl, _, rfl, _, _, dm, _, _, rfl, em, cM, T.na_Message_name, rfl, D1, _, rfl, DPut.k (k := .inr ps[i].2.name) e14 l1, ?_⟩
      rw [putK_new _ v1]
      generalize e : upd _ D1 _ = H6
      obtain ⟨e16, k6⟩ := putD e e14
      have mD1 : ps[i].1 ≠ D1 := ne_of em e14 (fun z => nomatch z)
      have mD2 : ps[i].1 ≠ D2 := ne_of em e24 (fun z => nomatch z)
      have em6 := k6.ins em (n1 mD1)
      have e26 := k6.dk e24 (n1 D12.symm)
      refine ⟨_, rfl, _, rfl, _, _, dm, _, _, rfl, em6, cM, T.na_Message_rank, rfl, D2, _, rfl, DPut.k (k := .inl ps[i].2.rank) e26 l2, ?_⟩
      rw [putK_new _ v2]
      generalize e : upd _ D2 _ = H7
      obtain ⟨e27, k7⟩ := putD e e26
      have tk : ps.take (i + 1) = ps.take i ++ [ps[i]] := List.take_succ_eq_append_getElem hi
      refine ⟨⟨_, rfl⟩, (k4.mut k6 hD1).mut k7 hD20, k7.ins (k6.ins ea4 (n1 aD1)) (n1 aD2), ?_, ?_⟩
      · rw [k7.dk e16 (n1 D12), tk, List.map_append]
        rfl
      · rw [e27, tk, List.map_append]
        rfl
    · rintro σ' H4 ⟨⟨ov, rfl⟩, k4, ea4, e14, e24⟩
      rw [List.length_map, List.take_length] at e14 e24
      refine ⟨_, rfl, D2, _, ps.map (·.2.rank), rfl, .inl e24, by rw [List.map_map, List.map_map]; rfl, by rw [List.length_map]; omega, fun ys q hperm hsort hq => ?_⟩
      generalize e : upd _ q _ = H5
      obtain ⟨e5, k5⟩ := newF e hq
      obtain ⟨ms, hpm, rfl⟩ := perm_map_inv (f := fun m : Addr × RowD => m.2.rank) hperm rfl
      refine ⟨q, rfl, ⟨_, SqL.of e5⟩, fun D hD => ?_⟩
      have qD : q ≠ D := ne_of_none e5 hD
      have aD : a ≠ D := ne_of_none (k5.ins ea4 n0) hD
      have D2D : D2 ≠ D := ne_of_none (k5.dk e24 n0) hD
      have D1D : D1 ≠ D := ne_of_none (k5.dk e14 n0) hD
      refine lc_it (walk_list (K := K) (xs := (ms.map (·.2.rank)).map V.int)) (fun i H' => H' D = some (.lst ((ms.take i).map fun m => V.ref m.1)) ∧ Kp [] H5 H') ?_ (fun i H' _ h => SqL.of (h.2.lst e5 n0)) ?_ ?_
      · generalize e : upd _ D _ = H6
        obtain ⟨e6, k6⟩ := newF e hD
        exact ⟨e6, k6⟩
      · rintro i x H6 H7 hi ⟨e6, k6⟩ ⟨rfl, hx⟩
        rw [List.length_map, List.length_map] at hi
        rw [List.getElem?_map, List.getElem?_map, List.getElem?_eq_getElem hi] at hx
        obtain rfl : V.int ms[i].2.rank = x := by simpa using hx
        have hmem : ms[i] ∈ ps := hpm.mem_iff.mp (List.getElem_mem hi)
        have v : valV (ps.map fun m => ((.inl m.2.rank : Key), V.ref m.1)) (.inl ms[i].2.rank) = some (.ref ms[i].1) := by
          refine valV_of_mem ?_ (List.mem_map.mpr ⟨_, hmem, rfl⟩)
          rw [List.map_map]
          have z : ((fun p : Key × V => p.1) ∘ fun m : Addr × RowD => ((.inl m.2.rank : Key), V.ref m.1)) = (Sum.inl ∘ fun m : Addr × RowD => m.2.rank) := rfl
          rw [z, ← List.map_map]
          exact List.Pairwise.map _ (fun _ _ h e => h (Sum.inl.inj e)) hrd
        have e26 := k6.dk (k5.dk e24 n0) n0
        refine ⟨rfl, _, rfl, _, rfl, D2, .ref ms[i].1, rfl, ?_, ?_⟩
        · have z := DGet.k (k := (.inl ms[i].2.rank : Key)) e26
          rwa [v] at z
        · refine ⟨_, e6, by rw [List.length_map, List.length_take]; exact small1000 (by have := hpm.length_eq; omega), ?_⟩
          generalize e : upd _ D _ = H8
          obtain ⟨e8, k8⟩ := putL e e6
          refine ⟨?_, k6.mut k8 hD⟩
          rw [e8, show ms.take (i + 1) = ms.take i ++ [ms[i]] from List.take_succ_eq_append_getElem hi, List.map_append]
          rfl
      · rintro H6 ⟨e6, k6⟩
        rw [List.length_map, List.length_map, List.take_length] at e6
        refine ⟨D, _, rfl, .inl ⟨SqL.of e6, fun r hr => ?_⟩⟩
        generalize e : upd _ r _ = H7
        obtain ⟨e7, k7⟩ := newF e hr
        have k47 := (k5.trans k6).trans k7
        have ea7 := k47.ins ea4 n0
        refine ⟨_, rfl, a, _, dx, _, rfl, ea7, cB, T.na_Bus_by_rank, fl1000 rfl, ?_⟩
        generalize e : upd _ a _ = H8
        obtain ⟨e8, k8⟩ := putI e ea7
        have k08 : Kp [a] H H8 := (k4.trans k47.any).trans k8
        refine k H8 D1 ms hD1 k08 hpm hsort ⟨dx, r, _, e8, k8.tup _ _ e7, k8.dk (k47.dk e14 n0) (n1 aD1.symm), fun m hm => ?_, fun m hm => ?_⟩
        · refine valV_of_mem ?_ (List.mem_map.mpr ⟨_, hpm.mem_iff.mp hm, rfl⟩)
          rw [List.map_map]
          have z : ((fun p : Key × V => p.1) ∘ fun m : Addr × RowD => ((.inr m.2.name : Key), V.ref m.1)) = (Sum.inr ∘ fun m : Addr × RowD => m.2.name) := rfl
          rw [z, ← List.map_map]
          exact List.Pairwise.map _ (fun _ _ h e => h (Sum.inr.inj e)) hnd
        · obtain ⟨h1, h2⟩ := hms m (hpm.mem_iff.mp hm)
          exact h1.kp k08 (n1 h2)
end
end K57
set_option Elab.async false
set_option linter.all false
set_option maxRecDepth 100000
set_option maxHeartbeats 4000000
namespace K57
open PySem L2 Pw
theorem newI {H H' : Hp} {x dx : Addr} {o u : HO} (e : upd (upd H dx u) x o = H') (hx : H x = none) (hd : H dx = none) (n : dx ≠ x) : H' x = some o ∧ Kp [] H H' := by
  subst e
  exact ⟨upd_same, (Kp.new hd).trans (Kp.new (by rw [upd_ne (Ne.symm n)]; exact hx))⟩
theorem DTs_rev {H : Hp} : ∀ {vs : List V} {ds : List PyData}, DTs H vs ds → DTs H vs.reverse ds.reverse
  | _, _, .nil => .nil
  | _, _, .cons a t => by
    rw [List.reverse_cons, List.reverse_cons]
    exact (DTs_rev t).app (.one a)
theorem row_inv {H : Hp} {v : V} {r : RowD} (h : DT H v r.d) : ∃ a e, v = .ref a ∧ H a = some (.tup [.str r.name, .int r.rank, .int r.gap, .int r.most, .int r.due, .int r.wait, .ref e]) ∧ H e = some (.tup []) := by
  obtain ⟨a, xs, rfl, ha, h1⟩ := h.tup_inv
  obtain ⟨v1, w1, rfl, d1, h2⟩ := h1.cons_inv
  obtain ⟨v2, w2, rfl, d2, h3⟩ := h2.cons_inv
  obtain ⟨v3, w3, rfl, d3, h4⟩ := h3.cons_inv
  obtain ⟨v4, w4, rfl, d4, h5⟩ := h4.cons_inv
  obtain ⟨v5, w5, rfl, d5, h6⟩ := h5.cons_inv
  obtain ⟨v6, w6, rfl, d6, h7⟩ := h6.cons_inv
  obtain ⟨v7, w7, rfl, d7, h8⟩ := h7.cons_inv
  obtain rfl := h8.nil_inv
  obtain ⟨e, ys, rfl, he, h9⟩ := d7.tup_inv
  obtain rfl := h9.nil_inv
  obtain rfl := d1.str_inv
  obtain rfl := d2.int_inv
  obtain rfl := d3.int_inv
  obtain rfl := d4.int_inv
  obtain rfl := d5.int_inv
  obtain rfl := d6.int_inv
  exact ⟨a, e, rfl, ha, he⟩
def spMsgs (K : PySem.W.Frag) : Sp := fun vs H Q _ => ∃ (b bn : Addr) (ms : List (Addr × RowD)), vs = [.ref b] ∧ BusAt K H b bn ms ∧ ∀ (l : Addr) (H' : Hp), H l = none → Kp [] H H' → H' l = some (.lst (ms.map fun m => .ref m.1)) → Q (.ref l) H'
def spMsgN (K : PySem.W.Frag) : Sp := fun vs H Q _ => ∃ (b bn : Addr) (ms : List (Addr × RowD)) (m : Addr × RowD), vs = [.ref b, .str m.2.name] ∧ BusAt K H b bn ms ∧ m ∈ ms ∧ Q (.ref m.1) H
def spLBus (K : PySem.W.Frag) : Sp := fun vs H Q _ => ∃ (l : Addr) (rows : List RowD), vs = [.ref l] ∧ LD H l (rows.map RowD.d) ∧ RowsOk rows ∧ rows.length ≤ 26 ∧
  ∀ (H' : Hp) (b bn : Addr) (ms : List (Addr × RowD)), (∀ x ∈ b :: bn :: ms.map (·.1), H x = none) → Kp [] H H' → ms.map (·.2) = rows → BusAt K H' b bn ms → Q (.ref b) H'
section
variable {P : Program} {w : World} {K : PySem.W.Frag} {mg : Str → Option Value} {base : Heap}
-- slots: 0 self
theorem ok_Bus_messages (T : Txt K mg) : ∃ fd, FnOk P w K mg base CX0 1 (He.ma K (He.ga K "Bus") "messages") fd ["self"] (spMsgs K) ∧ Binds K fd ["self"] [] := by
  obtain ⟨fd, F⟩ := T.f_Bus_messages
  refine ⟨fd, F.ok sc_Bus_messages (fun vs H Q E h => ?_) (fun cdv A outer s H vs Q E hr h => ?_), F.bindsN fun _ _ _ _ _ _ us hl => match us, hl with | [_], _ => rfl⟩
  · obtain ⟨b, bn, ms, rfl, _⟩ := h
    rfl
  · obtain ⟨b, bn, ms, rfl, hb, k⟩ := h
    refine ⟨_, PSs.nox (pss_one (ps_ret (pe_callTy call_list_of (by rfl) T.b_list (by decide +kernel) (pa_cons (pe_fld (pv 0) rfl) pa_nil)))), ?_⟩
    obtain ⟨dx, br, kvs, h1, h2, h3, h4, h5⟩ := hb
    refine ⟨_, rfl, b, _, dx, _, _, rfl, h1, T.cl_Bus, T.na_Bus_by_rank, rfl, br, _, rfl, .inr (SqT.of h2), fun l hl => ?_⟩
    generalize e : upd _ l _ = H1
    obtain ⟨e1, k1⟩ := newF e hl
    exact k l H1 hl k1 e1
-- slots: 0 self, 1 name
theorem ok_Bus_message (T : Txt K mg) : ∃ fd, FnOk P w K mg base CX0 1 (He.ma K (He.ga K "Bus") "message") fd ["self", "name"] (spMsgN K) ∧ Binds K fd ["self", "name"] [] := by
  obtain ⟨fd, F⟩ := T.f_Bus_message
  refine ⟨fd, F.ok sc_Bus_message (fun vs H Q E h => ?_) (fun cdv A outer s H vs Q E hr h => ?_), F.bindsN fun _ _ _ _ _ _ us hl => match us, hl with | [_, _], _ => rfl⟩
  · obtain ⟨b, bn, ms, m, rfl, _⟩ := h
    rfl
  · obtain ⟨b, bn, ms, m, rfl, hb, hm, k⟩ := h
    have hu := hu_of hr
    refine ⟨_, PSs.nox (pss_cons (ps_if (pt_cmp (pc_dnotin hu (pv 1) (pe_fld (pv 0) rfl)))
          (pss_one ps_never)
          pss_nil)
      (pss_one (ps_ret (pe_dget hu (pe_fld (pv 0) rfl) (pv 1) (fun _ _ => rfl))))), ?_⟩
    obtain ⟨dx, br, kvs, h1, h2, h3, h4, h5⟩ := hb
    have z := DGet.k (k := (.inr m.2.name : Key)) h3
    rw [h4 m hm] at z
    refine ⟨_, rfl, _, rfl, b, _, dx, _, _, rfl, h1, T.cl_Bus, T.na_Bus_by_name, rfl, bn, _, rfl, z, _, rfl, ?_⟩
    exact ⟨_, rfl, b, _, dx, _, _, rfl, h1, T.cl_Bus, T.na_Bus_by_name, rfl, _, rfl, bn, _, rfl, z, k⟩
-- slots: 0 rows, 1 some, 2 row
theorem ok_law_bus (T : Txt K mg) : ∃ fd, FnOk P w K mg base CX0 6 (He.ga K "_law_bus") fd ["rows"] (spLBus K) ∧ Binds K fd ["rows"] [] := by
  obtain ⟨fd, F⟩ := T.f_law_bus
  obtain ⟨_, G_Bus___init__, b_Bus___init__⟩ := ok_Bus___init__ (P := P) (w := w) (base := base) T
  obtain ⟨_, G_Message___init__, _, _, kb_Message___init__, gv⟩ := ok_Message___init__ (P := P) (w := w) (base := base) T
  refine ⟨fd, F.ok sc_law_bus (fun vs H Q E h => ?_) (fun cdv A outer s H vs Q E hr h => ?_), F.bindsN fun _ _ _ _ _ _ us hl => match us, hl with | [_], _ => rfl⟩
  · obtain ⟨l, rows, rfl, _⟩ := h
    rfl
  · obtain ⟨l, rows, rfl, hl, hrows, hlen, k⟩ := h
    refine ⟨_, PSs.nox (pss_cons (ps_set (i := 1) sc_law_bus.nd rfl (Or.inl rfl) (pe_lst pa_nil))
      (pss_cons (ps_for PassesOwn.never rfl (pi_list (pe_revL (pv 0))) (pg_name (i := 2) sc_law_bus.nd rfl (Or.inl rfl))
          (pss_one (ps_expr (pe_bm PySem.F.plainAttrs_list PySem.F.slot_list_append PySem.F.type_list_append mt_append (pv 1) (pa_cons (pe_makeK T.mk_Message G_Message___init__ (hr.mono (by decide)) rfl T.g_Message kb_Message___init__ pass0 (pa_cons (pe_ix ix_seq (pv 2) pe_int (fun _ _ => rfl)) pa_nil) (pk_cons (pe_ix ix_seq (pv 2) pe_int (fun _ _ => rfl)) (pk_cons (pe_ix ix_seq (pv 2) pe_int (fun _ _ => rfl)) (pk_cons (pe_ix ix_seq (pv 2) pe_int (fun _ _ => rfl)) (pk_cons (pe_ix ix_seq (pv 2) pe_int (fun _ _ => rfl)) (pk_cons (pe_ix ix_seq (pv 2) pe_int (fun _ _ => rfl)) pk_nil)))))) pa_nil)))))
      (pss_one (ps_ret (pe_make T.mk_Bus G_Bus___init__ (hr.mono (by decide)) rfl T.g_Bus b_Bus___init__ .nil pass0 (pa_cons (pv 1) pa_nil)))))), ?_⟩
    refine ⟨szb rfl, fun S hS => ?_⟩
    generalize e : upd _ S _ = H1
    obtain ⟨e1, k1⟩ := newF e hS
    obtain ⟨vs, hv, hds⟩ := (hl.kp k1 n0).ex
    refine ⟨_, rfl, l, vs, rfl, SqL.of hv, fun q hq => ?_⟩
    generalize e : upd _ q _ = H2
    obtain ⟨e2, k2⟩ := newF e hq
    have qS : q ≠ S := (ne_of_none e1 hq).symm
    have hq0 : H q = none := k1.free0 hq
    have hvl := hds.len
    rw [List.length_map] at hvl
    refine ⟨q, rfl, ⟨_, SqL.of e2⟩, ?_⟩
    have hrl : rows.reverse.length = rows.length := List.length_reverse
    have hds2 := DTs_rev (hds.kp k2)
    rw [← List.map_reverse] at hds2
    have hSl : S ≠ l := (ne_of_none hl.ex.choose_spec.1 hS).symm
    refine for_it (walk_list (K := K) (xs := vs.reverse)) (fun i σ' H' => (∃ ov, σ' = [some (.ref l), some (.ref S), ov]) ∧ Kp [S] H2 H' ∧ ∃ ps : List (Addr × RowD), H' S = some (.lst (ps.map fun m => .ref m.1)) ∧ ps.map (·.2) = rows.reverse.take i ∧
      ∀ m ∈ ps, MsgAt K H' m.1 m.2 ∧ H m.1 = none) ?_ (fun _ _ _ _ h => SqL.of (h.2.1.lst e2 (n1 qS))) ?_ ?_
    · exact ⟨⟨_, rfl⟩, Kp.refl _ _, [], k2.lst e1 n0, rfl, fun _ h => nomatch h⟩
    · rintro i x σ' H3 H4 hi ⟨⟨ov, rfl⟩, k3, ps, eS, hps, hms⟩ ⟨rfl, hx⟩
      rw [List.length_reverse] at hi
      obtain ⟨d, hd, hdt⟩ := (hds2.kp k3).get hx
      have hir : i < rows.reverse.length := by omega
      rw [List.getElem?_map, List.getElem?_eq_getElem hir] at hd
      obtain rfl : (rows.reverse[i]).d = d := by simpa using hd
      have hmem : rows.reverse[i] ∈ rows := List.mem_reverse.mp (List.getElem_mem hir)
      have htk : rows.reverse.take (i + 1) = rows.reverse.take i ++ [rows.reverse[i]] := List.take_succ_eq_append_getElem hir
      generalize hr0 : rows.reverse[i] = r at hdt hmem htk
      obtain ⟨ra, re, rfl, hra, _⟩ := row_inv hdt
      have ix : ∀ (j : Nat) (v : V), [V.str r.name, .int r.rank, .int r.gap, .int r.most, .int r.due, .int r.wait, .ref re][j]? = some v → ∀ Q : VK, Q v H4 → rIx K (.ref ra) (.int (j : Int)) H4 Q := fun j v hj Q q => .inr (.inl ⟨ra, _, _, v, rfl, rfl, SqT.of hra, at_of (j := j) rfl hj, q⟩)
      refine ⟨_, rfl, tyL eS, _, rfl, ix 0 _ rfl _ ?_⟩
      refine ⟨_, rfl, ix 1 _ rfl _ ?_⟩
      refine ⟨_, rfl, ix 2 _ rfl _ ?_⟩
      refine ⟨_, rfl, ix 3 _ rfl _ ?_⟩
      refine ⟨_, rfl, ix 4 _ rfl _ ?_⟩
      refine ⟨_, rfl, ix 5 _ rfl _ ?_⟩
      refine ⟨rfl, rfl, fun x dx hx hdx hne => ?_⟩
      rw [gv]
      generalize e : upd (upd _ dx _) x _ = H5
      obtain ⟨e5, k5⟩ := newI e hx hdx hne
      refine ⟨x, dx, r, rfl, hrows.ok r hmem, e5, fun H6 k6 hm6 => ⟨rfl, ?_⟩⟩
      have k46 : Kp [] H4 H6 := k5.mut k6 hx
      have eS6 := k46.lst eS n0
      have hpl := congrArg List.length hps
      rw [List.length_map, List.length_take] at hpl
      refine ⟨S, _, _, rfl, rfl, eS6, by rw [List.length_map]; exact small1000 (by omega), ?_⟩
      generalize e : upd _ S _ = H7
      obtain ⟨e7, k7⟩ := putL e eS6
      refine ⟨⟨_, rfl⟩, (k3.trans k46.any).trans k7, ps ++ [(x, r)], by rw [e7, List.map_append]; rfl, by rw [List.map_append, hps, htk]; rfl, fun m hm => ?_⟩
      rcases List.mem_append.mp hm with h | h
      · obtain ⟨h1, h2⟩ := hms m h
        obtain ⟨dm, em⟩ := h1
        exact ⟨(MsgAt.kp ⟨dm, em⟩ k46 n0).kp k7 (n1 (ne_of em eS (fun z => nomatch z))), h2⟩
      · rw [List.mem_singleton.mp h]
        obtain ⟨dm, em⟩ := id hm6
        exact ⟨hm6.kp k7 (n1 (ne_of em eS6 (fun z => nomatch z))), ((k1.trans k2).mut k3 hS).free0 hx⟩
    · rintro σ' H3 ⟨⟨ov, rfl⟩, k3, ps, eS, hps, hms⟩
      rw [List.length_reverse, hvl, ← hrl, List.take_length] at hps
      have hpl := congrArg List.length hps
      rw [List.length_map, hrl] at hpl
      have k03 := (k1.trans k2).mut k3 hS
      refine ⟨_, rfl, fun x dx hx hdx hne => ?_⟩
      generalize e : upd (upd _ dx _) x _ = H5
      obtain ⟨e5, k5⟩ := newI e hx hdx hne
      refine ⟨x, dx, S, ps, rfl, e5, k5.lst eS n0, fun m hm => ?_, ?_, ?_, by omega, fun H6 bn ms hbn k6 hpm hsort hbus => ⟨rfl, ?_⟩⟩
      · obtain ⟨dm, em⟩ := (hms m hm).1
        exact ⟨(hms m hm).1.kp k5 n0, ne_of_none em hx⟩
      · have z : (ps.map (·.2.name)) = (ps.map (·.2)).map (·.name) := by rw [List.map_map]; rfl
        rw [z, hps, List.map_reverse]
        exact (List.reverse_perm _).nodup_iff.mpr hrows.names
      · have z : (ps.map (·.2.rank)) = (ps.map (·.2)).map (·.rank) := by rw [List.map_map]; rfl
        rw [z, hps, List.map_reverse]
        exact (List.reverse_perm _).nodup_iff.mpr (hrows.ranks.imp fun h => Int.ne_of_lt h)
      · refine k H6 x bn ms ?_ (k03.trans (k5.mut k6 hx)) ?_ hbus
        · intro y hy
          rcases List.mem_cons.mp hy with rfl | hy
          · exact k03.free0 hx
          · rcases List.mem_cons.mp hy with rfl | hy
            · exact (k03.trans k5).free0 hbn
            · obtain ⟨m, hm, rfl⟩ := List.mem_map.mp hy
              exact (hms m (hpm.mem_iff.mp hm)).2
        · have h1 : (ms.map (·.2)).Perm rows := ((hpm.map _).trans (by rw [hps])).trans (List.reverse_perm _)
          have h2 : (ms.map (·.2)).Pairwise (fun a b => a.rank ≤ b.rank) := by
            have z : (ms.map (·.2.rank)) = (ms.map (·.2)).map (·.rank) := by rw [List.map_map]; rfl
            rw [z] at hsort
            exact List.pairwise_map.mp hsort
          have h3 : rows.Pairwise (fun a b => a.rank < b.rank) := List.pairwise_map.mp hrows.ranks
          refine List.Perm.eq_of_pairwise (le := fun a b : RowD => a.rank ≤ b.rank) (fun a b ha hb hab hba => ?_) h2 (h3.imp fun h => Int.le_of_lt h) h1
          have ha := h1.mem_iff.mp ha
          obtain ⟨i, hi, rfl⟩ := List.getElem_of_mem ha
          obtain ⟨j, hj, rfl⟩ := List.getElem_of_mem hb
          rcases Nat.lt_trichotomy i j with h | h | h
          · have := List.pairwise_iff_getElem.mp h3 i j hi hj h
            omega
          · subst h
            rfl
          · have := List.pairwise_iff_getElem.mp h3 j i hj hi h
            omega
end
end K57
set_option Elab.async false
set_option linter.all false
set_option maxRecDepth 100000
set_option maxHeartbeats 4000000
namespace K57
open PySem L2 Pw
def wishD (w : Int × Str) : PyData := .tuple [.int w.1, .str w.2]
def spWishes : Sp := fun vs H Q _ => ∃ (t ca l : Addr) (many far : Int) (rows : List RowD) (n : Nat), vs = [.ref t, .ref l, .int many, .int far] ∧ Tape H t ca n ∧ LD H l (rows.map RowD.d) ∧ 1 ≤ rows.length ∧ rows.length ≤ 26 ∧ 0 ≤ many ∧ many ≤ 60 ∧ 1 ≤ far ∧ far ≤ 2 ^ 20 ∧ n ≤ 800000 ∧
  ∀ (f : Addr) (ws : List (Int × Str)) (H' : Hp), H f = none → Kp [t] H H' → Tape H' t ca (n + 300) → LD H' f (ws.map wishD) → ws.length = many.toNat → (∀ w ∈ ws, 0 ≤ w.1 ∧ w.1 ≤ far + 5 ∧ w.2 ∈ rows.map (·.name)) → Q (.ref f) H'
section
variable {P : Program} {w : World} {K : PySem.W.Frag} {mg : Str → Option Value} {base : Heap}
-- slots: 0 tape, 1 rows, 2 many, 3 far, 4 found, 5 near, 6 k, 7 moment
theorem ok_law_wishes (T : Txt K mg) : ∃ fd, FnOk P w K mg base CX0 2 (He.ga K "_law_wishes") fd ["tape", "rows", "many", "far"] spWishes ∧ Binds K fd ["tape", "rows", "many", "far"] [] := by
  obtain ⟨fd, F⟩ := T.f_law_wishes
  obtain ⟨_, G__law_draw, b__law_draw⟩ := ok_law_draw (P := P) (w := w) (base := base) T
  refine ⟨fd, F.ok sc_law_wishes (fun vs H Q E h => ?_) (fun cdv A outer s H vs Q E hr h => ?_), F.bindsN fun _ _ _ _ _ _ us hl => match us, hl with | [_, _, _, _], _ => rfl⟩
  · obtain ⟨t, ca, l, many, far, rows, n, rfl, _⟩ := h
    rfl
  · obtain ⟨t, ca, l, many, far, rows, n, rfl, TT, hl, hr1, hr2, hm1, hm2, hf1, hf2, hn, k⟩ := h
    refine ⟨_, PSs.nox (pss_cons (ps_par (i := 4) (j := 5) (by rfl) sc_law_wishes.nd rfl rfl (by decide) rfl rfl (pa_cons (pe_lst pa_nil) (pa_cons (pe_call G__law_draw (hr.mono (by decide)) rfl T.g__law_draw T.k__law_draw b__law_draw .nil pass0 (pa_cons (pv 0) (pa_cons (pv 3) pa_nil))) pa_nil)) (by rfl))
      (pss_cons (ps_for PassesOwn.never rfl (pi_range1 rfl T.b_range (pa_cons (pv 2) pa_nil)) (pg_name (i := 6) sc_law_wishes.nd rfl (Or.inl rfl))
          (pss_cons (ps_set (i := 7) sc_law_wishes.nd rfl (Or.inl rfl) (pe_ix ix_list (pe_lst (pa_cons (pe_call G__law_draw (hr.mono (by decide)) rfl T.g__law_draw T.k__law_draw b__law_draw .nil pass0 (pa_cons (pv 0) (pa_cons (pv 3) pa_nil))) (pa_cons (pv 5) (pa_cons (pe_op op_add (pv 5) (pe_call G__law_draw (hr.mono (by decide)) rfl T.g__law_draw T.k__law_draw b__law_draw .nil pass0 (pa_cons (pv 0) (pa_cons pe_int pa_nil)))) (pa_cons pe_int pa_nil))))) (pe_call G__law_draw (hr.mono (by decide)) rfl T.g__law_draw T.k__law_draw b__law_draw .nil pass0 (pa_cons (pv 0) (pa_cons pe_int pa_nil))) (fun _ _ => rfl)))
          (pss_one (ps_expr (pe_bm PySem.F.plainAttrs_list PySem.F.slot_list_append PySem.F.type_list_append mt_append (pv 4) (pa_cons (pe_tup (pa_cons (pv 7) (pa_cons (pe_ix ix_seq (pe_ix ix_seq (pv 1) (pe_call G__law_draw (hr.mono (by decide)) rfl T.g__law_draw T.k__law_draw b__law_draw .nil pass0 (pa_cons (pv 0) (pa_cons (pe_callB call_len (by rfl) T.b_len (by decide +kernel) (pa_cons (pv 1) pa_nil)) pa_nil))) (fun _ _ => rfl)) pe_int (fun _ _ => rfl)) pa_nil))) pa_nil))))))
      (pss_one (ps_ret (pv 4))))), ?_⟩
    refine ⟨szb rfl, fun S hS => ?_⟩
    generalize e : upd _ S _ = H1
    obtain ⟨e1, k1⟩ := newF e hS
    have hSt : S ≠ t := by
      obtain ⟨_, _, _, h1, _⟩ := TT.ex
      exact (ne_of_none h1 hS).symm
    have hSca : S ≠ ca := by
      obtain ⟨_, _, _, _, h1, _⟩ := TT.ex
      exact (ne_of_none h1 hS).symm
    have hlt : l ≠ t := by
      obtain ⟨vs, hv, _⟩ := hl.ex
      exact TT.nl hv
    refine ⟨_, rfl, _, rfl, t, ca, _, _, rfl, TT.kp0 k1, hf1, by omega, by omega, fun near H2 n0' n1' k2 T2 => ?_⟩
    refine ⟨_, _, rfl, _, rfl, many, rfl, by omega, by omega, ?_⟩
    refine for_it walk_range (fun i σ' H' => (∃ a b, σ' = [some (.ref t), some (.ref l), some (.int many), some (.int far), some (.ref S), some (.int near), a, b]) ∧ Kp [t] H H' ∧ Tape H' t ca (n + 1 + 4 * i) ∧
      ∃ ws : List (Int × Str), LD H' S (ws.map wishD) ∧ ws.length = i ∧ (∀ w ∈ ws, 0 ≤ w.1 ∧ w.1 ≤ far + 5 ∧ w.2 ∈ rows.map (·.name))) ?_ (fun _ _ _ _ _ => trivial) ?_ ?_
    · exact ⟨⟨_, _, rfl⟩, k1.any.trans k2, T2, [], ⟨_, k2.lst e1 (n1 hSt), .nil⟩, rfl, fun _ h => nomatch h⟩
    · rintro i x σ' H3 H4 hi ⟨⟨a, b, rfl⟩, k3, T3, ws, hS3, hwl, hws⟩ ⟨rfl, rfl⟩
      refine ⟨_, rfl, _, rfl, t, ca, _, _, rfl, T3, hf1, by omega, by omega, fun m1 H5 m10 m11 k5 T5 => ?_⟩
      refine ⟨_, rfl, _, rfl, _, rfl, t, ca, _, _, rfl, T5, by decide, by decide, by omega, fun m2 H6 m20 m21 k6 T6 => ?_⟩
      refine ⟨_, _, rfl, rfl, szb rfl, fun p hp => ?_⟩
      generalize e : upd _ p _ = H7
      obtain ⟨e7, k7⟩ := newF e hp
      have hpt : p ≠ t := by
        obtain ⟨_, _, _, h1, _⟩ := T6.ex
        exact (ne_of_none h1 hp).symm
      refine ⟨_, rfl, t, ca, _, _, rfl, T6.kp0 k7, by decide, by decide, by omega, fun w4 H8 w40 w41 k8 T8 => ?_⟩
      obtain ⟨mo, hmo, mo0, mo1⟩ : ∃ mo : Int, [V.int m1, .int near, .int (near + m2), .int 0][w4.toNat]? = some (.int mo) ∧ 0 ≤ mo ∧ mo ≤ far + 5 := by
        have : w4.toNat = 0 ∨ w4.toNat = 1 ∨ w4.toNat = 2 ∨ w4.toNat = 3 := by omega
        rcases this with h | h | h | h <;> rw [h]
        · exact ⟨_, rfl, by omega, by omega⟩
        · exact ⟨_, rfl, by omega, by omega⟩
        · exact ⟨_, rfl, by omega, by omega⟩
        · exact ⟨_, rfl, by omega, by omega⟩
      refine ⟨p, _, w4, _, rfl, rfl, SqL.of (k8.lst e7 (n1 hpt)), at_nn w40 hmo, ?_⟩
      have k48 : Kp [t] H4 H8 := ((k5.trans k6).trans k7.any).trans k8
      obtain ⟨ss, es, hss⟩ := (hS3.kp k48 (n1 hSt)).ex
      obtain ⟨ls, el, hls⟩ := (hl.kp (k3.trans k48) (n1 hlt)).ex
      have hll := hls.len
      rw [List.length_map] at hll
      refine ⟨_, rfl, tyL es, _, rfl, _, rfl, _, rfl, _, rfl, _, _, rfl, .inl ⟨_, SqL.of el, rfl⟩, t, ca, _, _, rfl, T8, by omega, by omega, by omega, fun wr H9 wr0 wr1 k9 T9 => ?_⟩
      have hwr : wr.toNat < rows.length := by omega
      obtain ⟨v, hv⟩ : ∃ v, ls[wr.toNat]? = some v := ⟨_, List.getElem?_eq_getElem (by omega)⟩
      obtain ⟨d, hd, hdt⟩ := (hls.kp k9).get hv
      rw [List.getElem?_map, List.getElem?_eq_getElem hwr] at hd
      obtain rfl : (rows[wr.toNat]).d = d := by simpa using hd
      obtain ⟨ra, re, rfl, hra, _⟩ := row_inv hdt
      refine .inl ⟨l, ls, _, _, rfl, rfl, SqL.of (k9.lst el (n1 hlt)), at_nn wr0 hv, ?_⟩
      refine .inr (.inl ⟨ra, _, _, _, rfl, rfl, SqT.of hra, at_of (j := 0) rfl rfl, ?_⟩)
      refine ⟨szb rfl, fun q hq => ?_⟩
      generalize e : upd _ q _ = H10
      obtain ⟨e10, k10⟩ := newF e hq
      have es10 := k10.lst (k9.lst es (n1 hSt)) n0
      have hsl := hss.len
      rw [List.length_map] at hsl
      refine ⟨S, _, _, rfl, rfl, es10, by rw [hsl]; exact small1000 (by omega), ?_⟩
      generalize e : upd _ S _ = H11
      obtain ⟨e11, k11⟩ := putL e es10
      refine ⟨⟨_, _, rfl⟩, (((k3.trans k48).trans k9).trans k10.any).mut k11 hS, ((T9.kp0 k10).kp k11 (n1 hSt.symm) (n1 hSca.symm)).le (by omega), ws ++ [(mo, rows[wr.toNat].name)], ⟨_, e11, ?_⟩, by rw [List.length_append, hwl]; rfl, fun w hw => ?_⟩
      · rw [List.map_append]
        exact (hss.kp ((k9.trans k10.any)) |>.kp k11).app (.one (.tup (k11.tup _ _ e10) (.cons (.int _) (.cons (.str _) .nil))))
      · rcases List.mem_append.mp hw with h | h
        · exact hws w h
        · rw [List.mem_singleton.mp h]
          exact ⟨mo0, mo1, List.mem_map.mpr ⟨_, List.getElem_mem hwr, rfl⟩⟩
    · rintro σ' H3 ⟨⟨a, b, rfl⟩, k3, T3, ws, hS3, hwl, hws⟩
      exact ⟨_, rfl, k S ws H3 hS k3 (T3.le (by omega)) hS3 hwl hws⟩
end
end K57
set_option Elab.async false
set_option linter.all false
set_option maxRecDepth 100000
set_option maxHeartbeats 4000000
namespace K57
open PySem L2 Pw
/-! ### plain: what a line sends -/
structure Job where
  m : RowD
  place : Int
  arr : Int
  freed : Int
def Job.key (j : Job) : List Int := [j.m.rank, j.place]
def arrOf (m : RowD) (last : Option Int) (h : Int) : Int := match last with
  | none => h - m.wait
  | some l => if l + m.gap > h - m.wait then l + m.gap else h - m.wait
def relOf (gate : Bool) (h a : Int) : Int := if gate = true then (if a > h then a else h) else h
def jobsFrom (m : RowD) (gate : Bool) : Nat → Option Int → List Int → List Job
  | _, _, [] => []
  | k, last, h :: r => ⟨m, k, arrOf m last h, relOf gate h (arrOf m last h)⟩ :: jobsFrom m gate (k + 1) (some (arrOf m last h)) r
def parcelsIn (ms : List RowD) (s : List (Int × Str)) (gate : Bool) : List Job := ms.flatMap fun m => jobsFrom m gate 0 none ((s.filter fun w => decide (w.2 = m.name)).map (·.1))
structure SRow where
  start : Int
  stop : Int
  name : Str
  place : Int
  word : Str
structure St where
  hour : Int
  rows : List SRow
  E : List Int → Option Int
def isReady (hour : Int) (E : List Int → Option Int) (j : Job) : Bool := decide (j.freed ≤ hour) && (E j.key).isNone
def pick (js : List Job) (hour : Int) (E : List Int → Option Int) : Option Job := match js.filter (isReady hour E) with
  | [] => none
  | a :: r => some (leastK Job.key a r)
def leastOr (d : Int) : List Int → Int
  | [] => d
  | a :: r => leastI a r
def nextFree (js : List Job) (hour d : Int) : Int := leastOr d ((js.filter fun j => decide (j.freed > hour)).map (·.freed))
def badOf (sp : List Int) (hour stop : Int) : Option Int := match sp.filter (fun t => decide (hour ≤ t) && decide (t < stop)) with
  | [] => none
  | a :: r => some (leastI a r)
def putE (E : List Int → Option Int) (k : List Int) (v : Int) : List Int → Option Int := fun q => if q = k then some v else E q
def step (js : List Job) (sp : List Int) (u : Int) (st : St) : St :=
  if u ≤ st.hour then st else match pick js st.hour st.E with
  | none => { st with hour := nextFree js st.hour u }
  | some j => match badOf sp st.hour (st.hour + j.m.most) with
    | none => if st.hour + j.m.most > u then ⟨u, st.rows ++ [⟨st.hour, u, j.m.name, j.place, "going"⟩], st.E⟩
        else ⟨st.hour + j.m.most, st.rows ++ [⟨st.hour, st.hour + j.m.most, j.m.name, j.place, "sent"⟩], putE st.E j.key (st.hour + j.m.most)⟩
    | some b => if b + 1 > u then ⟨u, st.rows ++ [⟨st.hour, u, j.m.name, j.place, "going"⟩], st.E⟩
        else ⟨b + 1, st.rows ++ [⟨st.hour, b + 1, j.m.name, j.place, "spoiled"⟩], st.E⟩
def iter (js : List Job) (sp : List Int) (u : Int) : Nat → St → St
  | 0, s => s
  | n + 1, s => iter js sp u n (step js sp u s)
def st0 : St := ⟨0, [], fun _ => none⟩
def fin (js : List Job) (sp : List Int) (u : Int) : St := iter js sp u 1000 st0
/-! #### orders -/
theorem lexI_irrefl : ∀ a : List Int, HT.lexLt a a = false
  | [] => rfl
  | x :: r => by rw [HT.lexLt_cons, if_pos rfl]; exact lexI_irrefl r
theorem lexI_neg : ∀ a b c : List Int, HT.lexLt a c = true → HT.lexLt a b = true ∨ HT.lexLt b c = true
  | [], [], _, h => .inr h
  | [], _ :: _, _, _ => .inl rfl
  | _ :: _, _, [], h => by cases h
  | _ :: _, [], _ :: _, _ => .inr rfl
  | x :: r, y :: t, z :: q, h => by
    rw [HT.lexLt_cons] at h ⊢
    rw [HT.lexLt_cons]
    by_cases h1 : x = z
    · subst h1
      rw [if_pos rfl] at h
      by_cases h2 : x = y
      · subst h2
        rw [if_pos rfl, if_pos rfl]
        exact lexI_neg r t q h
      · rw [if_neg h2, if_neg (Ne.symm h2)]
        simp
        omega
    · rw [if_neg h1] at h
      have h := of_decide_eq_true h
      by_cases h2 : x = y
      · subst h2
        rw [if_neg h1]
        exact .inr (decide_eq_true h)
      · rw [if_neg h2]
        by_cases h3 : y = z
        · subst h3
          exact .inl (decide_eq_true h)
        · rw [if_neg h3]
          simp
          omega
theorem lexI_total : ∀ a b : List Int, HT.lexLt a b = false → HT.lexLt b a = false → a = b
  | [], [], _, _ => rfl
  | [], _ :: _, h, _ => by cases h
  | _ :: _, [], _, h => by cases h
  | x :: r, y :: t, h1, h2 => by
    rw [HT.lexLt_cons] at h1 h2
    by_cases h : x = y
    · subst h
      rw [if_pos rfl] at h1 h2
      rw [lexI_total r t h1 h2]
    · rw [if_neg h] at h1
      rw [if_neg (Ne.symm h)] at h2
      have h1 := of_decide_eq_false h1
      have h2 := of_decide_eq_false h2
      omega
theorem lexI_asym : ∀ a b : List Int, HT.lexLt a b = true → HT.lexLt b a = false
  | [], [], h => by cases h
  | [], _ :: _, _ => rfl
  | _ :: _, [], h => by cases h
  | x :: r, y :: t, h => by
    rw [HT.lexLt_cons] at h ⊢
    by_cases e : x = y
    · subst e
      rw [if_pos rfl] at h ⊢
      exact lexI_asym r t h
    · rw [if_neg e] at h
      rw [if_neg (Ne.symm e)]
      have h := of_decide_eq_true h
      exact decide_eq_false (by omega)
theorem leastK_mem {α : Type} (kf : α → List Int) : ∀ (r : List α) (a : α), leastK kf a r ∈ a :: r
  | [], a => List.mem_cons_self ..
  | x :: r, a => by
    show leastK kf (if HT.lexLt (kf x) (kf a) = true then x else a) r ∈ a :: x :: r
    have z := leastK_mem kf r (if HT.lexLt (kf x) (kf a) = true then x else a)
    rcases List.mem_cons.mp z with e | e
    · rw [e]
      split
      · exact List.mem_cons_of_mem _ (List.mem_cons_self ..)
      · exact List.mem_cons_self ..
    · exact List.mem_cons_of_mem _ (List.mem_cons_of_mem _ e)
theorem leastK_le {α : Type} (kf : α → List Int) : ∀ (r : List α) (a : α), ∀ x ∈ a :: r, HT.lexLt (kf x) (kf (leastK kf a r)) = false
  | [], a, x, h => by
    rw [List.mem_singleton.mp h]
    exact lexI_irrefl _
  | y :: r, a, x, h => by
    show HT.lexLt (kf x) (kf (leastK kf (if HT.lexLt (kf y) (kf a) = true then y else a) r)) = false
    have ih := leastK_le kf r (if HT.lexLt (kf y) (kf a) = true then y else a)
    generalize hb : (if HT.lexLt (kf y) (kf a) = true then y else a) = b at ih
    have hbl := ih b (List.mem_cons_self ..)
    have key : ∀ z, HT.lexLt (kf z) (kf b) = false → HT.lexLt (kf z) (kf (leastK kf b r)) = false := fun z hz => by
      cases q : HT.lexLt (kf z) (kf (leastK kf b r)) with
      | false => rfl
      | true =>
        rcases lexI_neg _ (kf b) _ q with h | h
        · rw [hz] at h; cases h
        · rw [hbl] at h; cases h
    rcases List.mem_cons.mp h with rfl | h
    · refine key _ ?_
      rw [← hb]
      split
      · rename_i hlt
        exact lexI_asym _ _ hlt
      · exact lexI_irrefl _
    · rcases List.mem_cons.mp h with rfl | h
      · refine key _ ?_
        rw [← hb]
        split
        · exact lexI_irrefl _
        · rename_i hlt
          simpa using hlt
      · exact ih x (List.mem_cons_of_mem _ h)
theorem leastI_mem : ∀ (r : List Int) (a : Int), leastI a r ∈ a :: r
  | [], a => List.mem_cons_self ..
  | x :: r, a => by
    show leastI (if x < a then x else a) r ∈ a :: x :: r
    rcases List.mem_cons.mp (leastI_mem r (if x < a then x else a)) with e | e
    · rw [e]
      split
      · exact List.mem_cons_of_mem _ (List.mem_cons_self ..)
      · exact List.mem_cons_self ..
    · exact List.mem_cons_of_mem _ (List.mem_cons_of_mem _ e)
theorem leastI_le : ∀ (r : List Int) (a : Int), ∀ x ∈ a :: r, leastI a r ≤ x
  | [], a, x, h => by rw [List.mem_singleton.mp h]; exact Int.le_refl _
  | y :: r, a, x, h => by
    show leastI (if y < a then y else a) r ≤ x
    have ih := leastI_le r (if y < a then y else a)
    have hba : (if y < a then y else a) ≤ a ∧ (if y < a then y else a) ≤ y := by split <;> omega
    generalize (if y < a then y else a) = b at ih hba
    have hb := ih _ (List.mem_cons_self ..)
    rcases List.mem_cons.mp h with rfl | h
    · omega
    · rcases List.mem_cons.mp h with rfl | h
      · omega
      · exact ih x (List.mem_cons_of_mem _ h)
theorem leastOr_mem {d : Int} {l : List Int} : (l = [] ∧ leastOr d l = d) ∨ (leastOr d l ∈ l ∧ ∀ x ∈ l, leastOr d l ≤ x) := by
  cases l with
  | nil => exact .inl ⟨rfl, rfl⟩
  | cons a r => exact .inr ⟨leastI_mem r a, leastI_le r a⟩
/-! #### the parts of a step -/
theorem pick_none {js : List Job} {hour : Int} {E : List Int → Option Int} (h : pick js hour E = none) : ∀ j ∈ js, isReady hour E j = false := by
  unfold pick at h
  split at h
  · rename_i e
    intro j hj
    cases q : isReady hour E j with
    | false => rfl
    | true =>
      have z := List.mem_filter.mpr ⟨hj, q⟩
      rw [e] at z
      cases z
  · cases h
theorem pick_some {js : List Job} {hour : Int} {E : List Int → Option Int} {j : Job} (h : pick js hour E = some j) : j ∈ js ∧ isReady hour E j = true ∧ ∀ q ∈ js, isReady hour E q = true → HT.lexLt q.key j.key = false := by
  unfold pick at h
  split at h
  · cases h
  · rename_i a r e
    injection h with h
    have m := leastK_mem Job.key r a
    rw [h, ← e] at m
    obtain ⟨h1, h2⟩ := List.mem_filter.mp m
    refine ⟨h1, h2, fun q hq hr => ?_⟩
    have z := leastK_le Job.key r a q (by rw [← e]; exact List.mem_filter.mpr ⟨hq, hr⟩)
    rw [h] at z
    exact z
theorem pick_is {js : List Job} {hour : Int} {E : List Int → Option Int} {j : Job} (uk : js.Pairwise fun a b => a.key ≠ b.key) (h1 : j ∈ js) (h2 : isReady hour E j = true) (h3 : ∀ q ∈ js, isReady hour E q = true → HT.lexLt q.key j.key = false) : pick js hour E = some j := by
  cases q : pick js hour E with
  | none =>
    have := pick_none q j h1
    rw [this] at h2
    cases h2
  | some p =>
    obtain ⟨g1, g2, g3⟩ := pick_some q
    have ek := lexI_total _ _ (h3 p g1 g2) (g3 j h1 h2)
    obtain ⟨i, hi, rfl⟩ := List.getElem_of_mem g1
    obtain ⟨k, hk, rfl⟩ := List.getElem_of_mem h1
    rcases Nat.lt_trichotomy i k with h | h | h
    · exact absurd ek (List.pairwise_iff_getElem.mp uk i k hi hk h)
    · subst h
      rfl
    · exact absurd ek.symm (List.pairwise_iff_getElem.mp uk k i hk hi h)
theorem pick_eq {js1 js2 : List Job} {hour : Int} {E : List Int → Option Int} (uk : js2.Pairwise fun a b => a.key ≠ b.key) (sub : ∀ j ∈ js1, j ∈ js2) (ex : ∀ j ∈ js2, j ∈ js1 ∨ hour < j.freed) : pick js2 hour E = pick js1 hour E := by
  have ready1 : ∀ j ∈ js2, isReady hour E j = true → j ∈ js1 := fun j hj h => by
    rcases ex j hj with g | g
    · exact g
    · unfold isReady at h
      obtain ⟨h, _⟩ := Bool.and_eq_true_iff.mp h
      have h := of_decide_eq_true h
      omega
  cases q : pick js1 hour E with
  | some j =>
    obtain ⟨g1, g2, g3⟩ := pick_some q
    exact pick_is uk (sub j g1) g2 fun p hp hr => g3 p (ready1 p hp hr) hr
  | none =>
    cases q2 : pick js2 hour E with
    | none => rfl
    | some j =>
      obtain ⟨g1, g2, g3⟩ := pick_some q2
      have := pick_none q j (ready1 j g1 g2)
      rw [this] at g2
      cases g2
theorem bad_none {sp : List Int} {h s : Int} (q : badOf sp h s = none) : ∀ t ∈ sp, ¬ (h ≤ t ∧ t < s) := by
  unfold badOf at q
  split at q
  · rename_i e
    rintro t ht ⟨h1, h2⟩
    have z : t ∈ sp.filter (fun t => decide (h ≤ t) && decide (t < s)) := List.mem_filter.mpr ⟨ht, by rw [decide_eq_true h1, decide_eq_true h2]; rfl⟩
    rw [e] at z
    cases z
  · cases q
theorem bad_some {sp : List Int} {h s b : Int} (q : badOf sp h s = some b) : b ∈ sp ∧ h ≤ b ∧ b < s ∧ ∀ t ∈ sp, h ≤ t → t < s → b ≤ t := by
  unfold badOf at q
  split at q
  · cases q
  · rename_i a r e
    injection q with q
    have m := leastI_mem r a
    rw [q, ← e] at m
    obtain ⟨h1, h2⟩ := List.mem_filter.mp m
    obtain ⟨h2, h3⟩ := Bool.and_eq_true_iff.mp h2
    refine ⟨h1, of_decide_eq_true h2, of_decide_eq_true h3, fun t ht g1 g2 => ?_⟩
    have z := leastI_le r a t (by rw [← e]; exact List.mem_filter.mpr ⟨ht, by rw [decide_eq_true g1, decide_eq_true g2]; rfl⟩)
    rw [q] at z
    exact z
/-- spoiled ticks at or behind the end count for nothing -/
theorem step_sp {js : List Job} {sp1 sp2 : List Int} {u : Int} (h : ∀ t, t < u → (t ∈ sp1 ↔ t ∈ sp2)) (st : St) : step js sp1 u st = step js sp2 u st := by
  unfold step
  by_cases hu : u ≤ st.hour
  · rw [if_pos hu, if_pos hu]
  · rw [if_neg hu, if_neg hu]
    cases pick js st.hour st.E with
    | none => rfl
    | some j =>
      show (match badOf sp1 st.hour (st.hour + j.m.most) with | none => _ | some b => _) = (match badOf sp2 st.hour (st.hour + j.m.most) with | none => _ | some b => _)
      cases q1 : badOf sp1 st.hour (st.hour + j.m.most) with
      | none =>
        cases q2 : badOf sp2 st.hour (st.hour + j.m.most) with
        | none => rfl
        | some b =>
          obtain ⟨m, b1, b2, _⟩ := bad_some q2
          have hb : u ≤ b := by
            rcases Int.lt_or_le b u with g | g
            · exact absurd ⟨b1, b2⟩ (bad_none q1 b ((h b g).mpr m))
            · exact g
          show (if _ then _ else _) = (if _ then _ else _)
          rw [if_pos (by omega), if_pos (by omega)]
      | some a =>
        obtain ⟨ma, a1, a2, a3⟩ := bad_some q1
        cases q2 : badOf sp2 st.hour (st.hour + j.m.most) with
        | none =>
          have ha : u ≤ a := by
            rcases Int.lt_or_le a u with g | g
            · exact absurd ⟨a1, a2⟩ (bad_none q2 a ((h a g).mp ma))
            · exact g
          show (if _ then _ else _) = (if _ then _ else _)
          rw [if_pos (by omega), if_pos (by omega)]
        | some b =>
          obtain ⟨mb, b1, b2, b3⟩ := bad_some q2
          by_cases ha : a < u
          · have h1 := b3 a ((h a ha).mp ma) a1 a2
            have h2 := a3 b ((h b (by omega)).mpr mb) b1 b2
            have e : a = b := by omega
            subst e
            rfl
          · have hb : u ≤ b := by
              rcases Int.lt_or_le b u with g | g
              · have := a3 b ((h b g).mpr mb) b1 b2
                omega
              · exact g
            show (if _ then _ else _) = (if _ then _ else _)
            rw [if_pos (by omega), if_pos (by omega)]
theorem iter_sp {js : List Job} {sp1 sp2 : List Int} {u : Int} (h : ∀ t, t < u → (t ∈ sp1 ↔ t ∈ sp2)) : ∀ (n : Nat) (st : St), iter js sp1 u n st = iter js sp2 u n st
  | 0, _ => rfl
  | n + 1, st => by
    show iter js sp1 u n (step js sp1 u st) = iter js sp2 u n (step js sp2 u st)
    rw [step_sp h, iter_sp h n]
theorem fin_sp {js : List Job} {sp1 sp2 : List Int} {u : Int} (h : ∀ t, t < u → (t ∈ sp1 ↔ t ∈ sp2)) : fin js sp1 u = fin js sp2 u := iter_sp h 1000 st0
end K57
set_option Elab.async false
set_option linter.all false
set_option maxRecDepth 100000
set_option maxHeartbeats 4000000
namespace K57
open PySem L2 Pw
/-! ### a run ends -/
def mu (js : List Job) (sp : List Int) (u : Int) (st : St) : Nat :=
  (js.filter fun j => (st.E j.key).isNone).length + (sp.filter fun t => decide (st.hour ≤ t)).length + (js.filter fun j => decide (st.hour < j.freed)).length + (if st.hour < u then 1 else 0)
theorem filter_le {α : Type} {p q : α → Bool} : ∀ {l : List α}, (∀ x ∈ l, p x = true → q x = true) → (l.filter p).length ≤ (l.filter q).length
  | [], _ => Nat.le_refl _
  | x :: r, h => by
    have ih := filter_le (p := p) (q := q) (l := r) fun y hy => h y (List.mem_cons_of_mem _ hy)
    rw [List.filter_cons, List.filter_cons]
    cases hp : p x with
    | true =>
      rw [h x (List.mem_cons_self ..) hp]
      simpa using ih
    | false =>
      cases q x
      · simpa using ih
      · simp only [if_true, List.length_cons, Bool.false_eq_true, if_false]
        omega
theorem filter_lt {α : Type} {p q : α → Bool} : ∀ {l : List α}, (∀ x ∈ l, p x = true → q x = true) → (∃ x ∈ l, p x = false ∧ q x = true) → (l.filter p).length < (l.filter q).length
  | [], _, h => by
    obtain ⟨x, hx, _⟩ := h
    cases hx
  | x :: r, h, ⟨y, hy, h1, h2⟩ => by
    rw [List.filter_cons, List.filter_cons]
    rcases List.mem_cons.mp hy with rfl | hy
    · have ih := filter_le (p := p) (q := q) (l := r) fun z hz => h z (List.mem_cons_of_mem _ hz)
      rw [h1, h2]
      simp only [if_true, List.length_cons, Bool.false_eq_true, if_false]
      omega
    · have ih := filter_lt (p := p) (q := q) (l := r) (fun z hz => h z (List.mem_cons_of_mem _ hz)) ⟨y, hy, h1, h2⟩
      cases hp : p x with
      | true =>
        rw [h x (List.mem_cons_self ..) hp]
        simpa using ih
      | false =>
        cases q x
        · simpa using ih
        · simp only [if_true, List.length_cons, Bool.false_eq_true, if_false]
          omega
theorem mu_hour {js : List Job} {sp : List Int} {u h : Int} {st : St} {rows : List SRow} (hu : st.hour < u) (hh : st.hour ≤ h) (c : u ≤ h ∨ (∃ t ∈ sp, st.hour ≤ t ∧ t < h) ∨ ∃ j ∈ js, st.hour < j.freed ∧ j.freed ≤ h) :
    mu js sp u ⟨h, rows, st.E⟩ < mu js sp u st := by
  unfold mu
  show (js.filter fun j => (st.E j.key).isNone).length + (sp.filter fun t => decide (h ≤ t)).length + (js.filter fun j => decide (h < j.freed)).length + (if h < u then 1 else 0) < _
  have a1 : (sp.filter fun t => decide (h ≤ t)).length ≤ (sp.filter fun t => decide (st.hour ≤ t)).length := filter_le fun t _ q => decide_eq_true (by have := of_decide_eq_true q; omega)
  have a2 : (js.filter fun j => decide (h < j.freed)).length ≤ (js.filter fun j => decide (st.hour < j.freed)).length := filter_le fun t _ q => decide_eq_true (by have := of_decide_eq_true q; omega)
  rw [if_pos hu]
  rcases c with c | ⟨t, ht, c1, c2⟩ | ⟨j, hj, c1, c2⟩
  · rw [if_neg (by omega)]
    omega
  · have b1 : (sp.filter fun t => decide (h ≤ t)).length < (sp.filter fun t => decide (st.hour ≤ t)).length := filter_lt (fun t _ q => decide_eq_true (by have := of_decide_eq_true q; omega)) ⟨t, ht, decide_eq_false (by omega), decide_eq_true c1⟩
    split <;> omega
  · have b1 : (js.filter fun j => decide (h < j.freed)).length < (js.filter fun j => decide (st.hour < j.freed)).length := filter_lt (fun t _ q => decide_eq_true (by have := of_decide_eq_true q; omega)) ⟨j, hj, decide_eq_false (by omega), decide_eq_true c1⟩
    split <;> omega
theorem mu_sent {js : List Job} {sp : List Int} {u h : Int} {st : St} {rows : List SRow} {j : Job} (hu : st.hour < u) (hh : st.hour ≤ h) (hj : j ∈ js) (hn : (st.E j.key).isNone = true) :
    mu js sp u ⟨h, rows, putE st.E j.key h⟩ < mu js sp u st := by
  unfold mu
  show (js.filter fun q => (putE st.E j.key h q.key).isNone).length + (sp.filter fun t => decide (h ≤ t)).length + (js.filter fun j => decide (h < j.freed)).length + (if h < u then 1 else 0) < _
  have a1 : (sp.filter fun t => decide (h ≤ t)).length ≤ (sp.filter fun t => decide (st.hour ≤ t)).length := filter_le fun t _ q => decide_eq_true (by have := of_decide_eq_true q; omega)
  have a2 : (js.filter fun j => decide (h < j.freed)).length ≤ (js.filter fun j => decide (st.hour < j.freed)).length := filter_le fun t _ q => decide_eq_true (by have := of_decide_eq_true q; omega)
  have a3 : (js.filter fun q => (putE st.E j.key h q.key).isNone).length < (js.filter fun q => (st.E q.key).isNone).length := by
    refine filter_lt (fun q _ e => ?_) ⟨j, hj, ?_, hn⟩
    · unfold putE at e
      split at e
      · cases e
      · exact e
    · unfold putE
      rw [if_pos rfl]
      rfl
  rw [if_pos hu]
  split <;> omega
/-- each step ends sooner and adds at most one row -/
theorem step_mu {js : List Job} {sp : List Int} {u : Int} {st : St} (hm : ∀ j ∈ js, 1 ≤ j.m.most) (hu : st.hour < u) : mu js sp u (step js sp u st) < mu js sp u st ∧ st.hour < (step js sp u st).hour ∧ (step js sp u st).rows.length ≤ st.rows.length + 1 := by
  unfold step
  rw [if_neg (by omega)]
  cases q : pick js st.hour st.E with
  | none =>
    show mu js sp u ⟨nextFree js st.hour u, st.rows, st.E⟩ < _ ∧ st.hour < nextFree js st.hour u ∧ st.rows.length ≤ _
    rcases leastOr_mem (d := u) (l := (js.filter fun j => decide (j.freed > st.hour)).map (·.freed)) with ⟨_, e⟩ | ⟨m, _⟩
    · have e : nextFree js st.hour u = u := e
      rw [e]
      exact ⟨mu_hour hu (by omega) (.inl (Int.le_refl _)), hu, by omega⟩
    · obtain ⟨j, hj, e⟩ := List.mem_map.mp m
      have e : j.freed = nextFree js st.hour u := e
      obtain ⟨h1, h2⟩ := List.mem_filter.mp hj
      have h2 := of_decide_eq_true h2
      rw [← e]
      exact ⟨mu_hour hu (by omega) (.inr (.inr ⟨j, h1, h2, Int.le_refl _⟩)), h2, by omega⟩
  | some j =>
    obtain ⟨h1, h2, _⟩ := pick_some q
    have hmj := hm j h1
    have hn : (st.E j.key).isNone = true := (Bool.and_eq_true_iff.mp h2).2
    have rl : ∀ r : SRow, (st.rows ++ [r]).length ≤ st.rows.length + 1 := fun r => by rw [List.length_append]; exact Nat.le_refl _
    show mu js sp u (match badOf sp st.hour (st.hour + j.m.most) with | none => _ | some b => _) < _ ∧ st.hour < (match badOf sp st.hour (st.hour + j.m.most) with | none => _ | some b => _ : St).hour ∧ (match badOf sp st.hour (st.hour + j.m.most) with | none => _ | some b => _ : St).rows.length ≤ _
    cases q2 : badOf sp st.hour (st.hour + j.m.most) with
    | none =>
      show mu js sp u (if _ then _ else _) < _ ∧ st.hour < (if _ then _ else _ : St).hour ∧ (if _ then _ else _ : St).rows.length ≤ _
      split
      · exact ⟨mu_hour hu (by omega) (.inl (Int.le_refl _)), hu, rl _⟩
      · exact ⟨mu_sent hu (by omega) h1 hn, by show st.hour < st.hour + j.m.most; omega, rl _⟩
    | some b =>
      obtain ⟨m, b1, b2, _⟩ := bad_some q2
      show mu js sp u (if _ then _ else _) < _ ∧ st.hour < (if _ then _ else _ : St).hour ∧ (if _ then _ else _ : St).rows.length ≤ _
      split
      · exact ⟨mu_hour hu (by omega) (.inl (Int.le_refl _)), hu, rl _⟩
      · exact ⟨mu_hour hu (by omega) (.inr (.inl ⟨b, m, b1, by omega⟩)), by show st.hour < b + 1; omega, rl _⟩
theorem step_end {js : List Job} {sp : List Int} {u : Int} {st : St} (h : u ≤ st.hour) : step js sp u st = st := by
  unfold step
  rw [if_pos h]
theorem iter_end {js : List Job} {sp : List Int} {u : Int} {st : St} (h : u ≤ st.hour) : ∀ n, iter js sp u n st = st
  | 0 => rfl
  | n + 1 => by
    show iter js sp u n (step js sp u st) = st
    rw [step_end h, iter_end h n]
theorem iter_add {js : List Job} {sp : List Int} {u : Int} : ∀ (n m : Nat) (st : St), iter js sp u (n + m) st = iter js sp u m (iter js sp u n st)
  | 0, m, st => by rw [Nat.zero_add]; rfl
  | n + 1, m, st => by
    rw [show n + 1 + m = (n + m) + 1 by omega]
    exact iter_add n m _
/-- st stands n turns behind the start -/
structure Reach (js : List Job) (sp : List Int) (u : Int) (st : St) : Prop where
  ex : ∃ n, st = iter js sp u n st0 ∧ n + mu js sp u st ≤ mu js sp u st0 ∧ st.rows.length ≤ n ∧ 0 ≤ st.hour
theorem Reach.start (js : List Job) (sp : List Int) (u : Int) : Reach js sp u st0 := ⟨0, rfl, by omega, Nat.le_refl _, Int.le_refl _⟩
theorem Reach.next {js : List Job} {sp : List Int} {u : Int} {st : St} (R : Reach js sp u st) (hm : ∀ j ∈ js, 1 ≤ j.m.most) (hu : st.hour < u) : Reach js sp u (step js sp u st) := by
  obtain ⟨n, e, h, hr, h0⟩ := R.ex
  obtain ⟨h1, h2, h3⟩ := step_mu (sp := sp) hm hu
  exact ⟨n + 1, by rw [iter_add, ← e]; rfl, by omega, by omega, by omega⟩
theorem mu0_le (js : List Job) (sp : List Int) (u : Int) : mu js sp u st0 ≤ 2 * js.length + sp.length + 1 := by
  unfold mu
  have a1 := List.length_filter_le (fun j : Job => (st0.E j.key).isNone) js
  have a2 := List.length_filter_le (fun t => decide (st0.hour ≤ t)) sp
  have a3 := List.length_filter_le (fun j : Job => decide (st0.hour < j.freed)) js
  have a4 : (if st0.hour < u then 1 else 0) ≤ 1 := by split <;> omega
  omega
theorem Reach.rows {js : List Job} {sp : List Int} {u : Int} {st : St} (R : Reach js sp u st) : st.rows.length ≤ 2 * js.length + sp.length + 1 := by
  obtain ⟨n, e, h, hr, _⟩ := R.ex
  have := mu0_le js sp u
  omega
theorem Reach.fin {js : List Job} {sp : List Int} {u : Int} {st : St} (R : Reach js sp u st) (h : u ≤ st.hour) (hs : 2 * js.length + sp.length + 1 ≤ 1000) : st = K57.fin js sp u := by
  obtain ⟨n, e, g, _⟩ := R.ex
  have := mu0_le js sp u
  unfold K57.fin
  rw [show 1000 = n + (1000 - n) by omega, iter_add, ← e, iter_end h]
/-! ### what is sent up to an hour stays -/
def Goes (r1 r2 : List SRow) : Prop := (∃ more, r2 = r1 ++ more) ∨ ∃ r h s1 s2 n p w more, r1 = r ++ [⟨h, s1, n, p, "going"⟩] ∧ r2 = r ++ ⟨h, s2, n, p, w⟩ :: more
theorem Goes.more {r1 r2 m : List SRow} (g : Goes r1 r2) : Goes r1 (r2 ++ m) := by
  rcases g with ⟨a, rfl⟩ | ⟨r, h, s1, s2, n, p, w, a, rfl, rfl⟩
  · exact .inl ⟨a ++ m, by rw [List.append_assoc]⟩
  · exact .inr ⟨r, h, s1, s2, n, p, w, a ++ m, rfl, by rw [List.append_assoc]; rfl⟩
theorem step_rows (js : List Job) (sp : List Int) (u : Int) (st : St) : ∃ m, (step js sp u st).rows = st.rows ++ m := by
  unfold step
  split
  · exact ⟨[], by rw [List.append_nil]⟩
  · split
    · exact ⟨[], by rw [List.append_nil]⟩
    · split <;> split <;> exact ⟨_, rfl⟩
theorem sim_step {js1 js2 : List Job} {sp : List Int} {u1 u2 : Int} (hu : u1 ≤ u2) (uk : js2.Pairwise fun a b => a.key ≠ b.key) (sub : ∀ j ∈ js1, j ∈ js2) (ex : ∀ j ∈ js2, j ∈ js1 ∨ u1 ≤ j.freed) {s1 s2 : St}
    (h : s1 = s2 ∨ (u1 ≤ s1.hour ∧ Goes s1.rows s2.rows)) : step js1 sp u1 s1 = step js2 sp u2 s2 ∨ (u1 ≤ (step js1 sp u1 s1).hour ∧ Goes (step js1 sp u1 s1).rows (step js2 sp u2 s2).rows) := by
  rcases h with rfl | ⟨h1, g⟩
  · by_cases hs : u1 ≤ s1.hour
    · rw [step_end hs]
      obtain ⟨m, e⟩ := step_rows js2 sp u2 s1
      exact .inr ⟨hs, .inl ⟨m, e⟩⟩
    · have pe := pick_eq (E := s1.E) (hour := s1.hour) uk sub fun j hj => (ex j hj).imp id fun h => by omega
      unfold step
      rw [if_neg hs, if_neg (by omega), pe]
      cases q : pick js1 s1.hour s1.E with
      | none =>
        show (⟨nextFree js1 s1.hour u1, s1.rows, s1.E⟩ : St) = ⟨nextFree js2 s1.hour u2, s1.rows, s1.E⟩ ∨ (u1 ≤ nextFree js1 s1.hour u1 ∧ Goes s1.rows s1.rows)
        by_cases hn : u1 ≤ nextFree js1 s1.hour u1
        · exact .inr ⟨hn, .inl ⟨[], by rw [List.append_nil]⟩⟩
        · refine .inl ?_
          have e : nextFree js1 s1.hour u1 = nextFree js2 s1.hour u2 := by
            rcases leastOr_mem (d := u1) (l := (js1.filter fun j => decide (j.freed > s1.hour)).map (·.freed)) with ⟨_, e⟩ | ⟨m, l⟩
            · have e : nextFree js1 s1.hour u1 = u1 := e
              omega
            · have l : ∀ x ∈ (js1.filter fun j => decide (j.freed > s1.hour)).map (·.freed), nextFree js1 s1.hour u1 ≤ x := l
              obtain ⟨j, hj, e⟩ := List.mem_map.mp m
              have e : j.freed = nextFree js1 s1.hour u1 := e
              obtain ⟨g1, g2⟩ := List.mem_filter.mp hj
              have m2 : j.freed ∈ (js2.filter fun j => decide (j.freed > s1.hour)).map (·.freed) := List.mem_map.mpr ⟨j, List.mem_filter.mpr ⟨sub j g1, g2⟩, rfl⟩
              rcases leastOr_mem (d := u2) (l := (js2.filter fun j => decide (j.freed > s1.hour)).map (·.freed)) with ⟨e2, _⟩ | ⟨m3, l3⟩
              · rw [e2] at m2
                cases m2
              · have l3 : ∀ x ∈ (js2.filter fun j => decide (j.freed > s1.hour)).map (·.freed), nextFree js2 s1.hour u2 ≤ x := l3
                obtain ⟨k, hk, e3⟩ := List.mem_map.mp m3
                have e3 : k.freed = nextFree js2 s1.hour u2 := e3
                obtain ⟨g3, g4⟩ := List.mem_filter.mp hk
                have a1 := l3 _ m2
                rcases ex k g3 with g | g
                · have a2 := l _ (List.mem_map.mpr ⟨k, List.mem_filter.mpr ⟨g, g4⟩, rfl⟩)
                  have a2 : nextFree js1 s1.hour u1 ≤ k.freed := a2
                  omega
                · omega
          rw [e]
      | some j =>
        dsimp only
        have goes : ∀ (h s2 : Int) (n : Str) (p : Int) (w : Str), Goes (s1.rows ++ [⟨h, u1, n, p, "going"⟩]) (s1.rows ++ [⟨h, s2, n, p, w⟩]) := fun h s2 n p w => .inr ⟨s1.rows, h, u1, s2, n, p, w, [], rfl, rfl⟩
        cases q2 : badOf sp s1.hour (s1.hour + j.m.most) with
        | none =>
          dsimp only
          by_cases g1 : s1.hour + j.m.most > u1
          · rw [if_pos g1]
            refine .inr ⟨Int.le_refl _, ?_⟩
            split <;> exact goes _ _ _ _ _
          · rw [if_neg g1, if_neg (by omega)]
            exact .inl rfl
        | some b =>
          dsimp only
          by_cases g1 : b + 1 > u1
          · rw [if_pos g1]
            refine .inr ⟨Int.le_refl _, ?_⟩
            split <;> exact goes _ _ _ _ _
          · rw [if_neg g1, if_neg (by omega)]
            exact .inl rfl
  · rw [step_end h1]
    obtain ⟨m, e⟩ := step_rows js2 sp u2 s2
    rw [e]
    exact .inr ⟨h1, g.more⟩
theorem sim_iter {js1 js2 : List Job} {sp : List Int} {u1 u2 : Int} (hu : u1 ≤ u2) (uk : js2.Pairwise fun a b => a.key ≠ b.key) (sub : ∀ j ∈ js1, j ∈ js2) (ex : ∀ j ∈ js2, j ∈ js1 ∨ u1 ≤ j.freed) : ∀ (n : Nat) {s1 s2 : St},
    (s1 = s2 ∨ (u1 ≤ s1.hour ∧ Goes s1.rows s2.rows)) → iter js1 sp u1 n s1 = iter js2 sp u2 n s2 ∨ (u1 ≤ (iter js1 sp u1 n s1).hour ∧ Goes (iter js1 sp u1 n s1).rows (iter js2 sp u2 n s2).rows)
  | 0, _, _, h => h
  | n + 1, _, _, h => sim_iter hu uk sub ex n (sim_step hu uk sub ex h)
theorem fin_goes {js1 js2 : List Job} {sp : List Int} {u1 u2 : Int} (hu : u1 ≤ u2) (uk : js2.Pairwise fun a b => a.key ≠ b.key) (sub : ∀ j ∈ js1, j ∈ js2) (ex : ∀ j ∈ js2, j ∈ js1 ∨ u1 ≤ j.freed) : Goes (fin js1 sp u1).rows (fin js2 sp u2).rows := by
  rcases sim_iter (sp := sp) hu uk sub ex 1000 (s1 := st0) (s2 := st0) (.inl rfl) with h | ⟨_, h⟩
  · have h : fin js1 sp u1 = fin js2 sp u2 := h
    rw [h]
    exact .inl ⟨[], by rw [List.append_nil]⟩
  · exact h
end K57
set_option Elab.async false
set_option linter.all false
set_option maxRecDepth 100000
set_option maxHeartbeats 4000000
namespace K57
open PySem L2 Pw
/-! ### the parcels of wishes -/
theorem jobs_len (m : RowD) (gate : Bool) : ∀ (hs : List Int) (k : Nat) (last : Option Int), (jobsFrom m gate k last hs).length = hs.length
  | [], _, _ => rfl
  | _ :: r, k, last => congrArg Nat.succ (jobs_len m gate r (k + 1) _)
theorem jobs_app (m : RowD) (gate : Bool) : ∀ (h1 h2 : List Int) (k : Nat) (last : Option Int), ∃ k' last', jobsFrom m gate k last (h1 ++ h2) = jobsFrom m gate k last h1 ++ jobsFrom m gate k' last' h2
  | [], h2, k, last => ⟨k, last, rfl⟩
  | h :: r, h2, k, last => by
    obtain ⟨k', l', e⟩ := jobs_app m gate r h2 (k + 1) (some (arrOf m last h))
    refine ⟨k', l', ?_⟩
    show _ :: jobsFrom m gate (k + 1) _ (r ++ h2) = _ :: (jobsFrom m gate (k + 1) _ r ++ _)
    rw [e]
theorem jobs_mem (m : RowD) (gate : Bool) : ∀ (hs : List Int) (k : Nat) (last : Option Int), ∀ j ∈ jobsFrom m gate k last hs, j.m = m ∧ (k : Int) ≤ j.place ∧ ∃ h ∈ hs, h ≤ j.freed
  | [], _, _, _, h => nomatch h
  | h :: r, k, last, j, hj => by
    rcases List.mem_cons.mp hj with rfl | hj
    · refine ⟨rfl, Int.le_refl _, h, List.mem_cons_self .., ?_⟩
      show h ≤ relOf gate h _
      unfold relOf
      split
      · split <;> omega
      · omega
    · obtain ⟨e1, e2, h', e3, e4⟩ := jobs_mem m gate r (k + 1) _ j hj
      exact ⟨e1, by omega, h', List.mem_cons_of_mem _ e3, e4⟩
theorem jobs_keys (m : RowD) (gate : Bool) : ∀ (hs : List Int) (k : Nat) (last : Option Int), (jobsFrom m gate k last hs).Pairwise fun a b => a.key ≠ b.key
  | [], _, _ => .nil
  | h :: r, k, last => by
    refine List.pairwise_cons.mpr ⟨fun j hj e => ?_, jobs_keys m gate r (k + 1) _⟩
    obtain ⟨_, e2, _⟩ := jobs_mem m gate r (k + 1) _ j hj
    have e : [m.rank, (k : Int)] = [j.m.rank, j.place] := e
    injection e with _ e
    injection e with e _
    omega
theorem parcels_keys {ms : List RowD} (hr : (ms.map (·.rank)).Pairwise (· < ·)) (s : List (Int × Str)) (gate : Bool) : (parcelsIn ms s gate).Pairwise fun a b => a.key ≠ b.key := by
  unfold parcelsIn
  rw [List.pairwise_flatMap]
  refine ⟨fun m _ => jobs_keys m gate _ 0 none, ?_⟩
  refine (List.pairwise_map.mp hr).imp fun {a b} hab x hx y hy e => ?_
  obtain ⟨ex, _⟩ := jobs_mem a gate _ 0 none x hx
  obtain ⟨ey, _⟩ := jobs_mem b gate _ 0 none y hy
  have e : [x.m.rank, x.place] = [y.m.rank, y.place] := e
  injection e with e _
  rw [ex, ey] at e
  omega
theorem parcels_msg {ms : List RowD} {s : List (Int × Str)} {gate : Bool} : ∀ j ∈ parcelsIn ms s gate, j.m ∈ ms := fun j hj => by
  obtain ⟨m, hm, h⟩ := List.mem_flatMap.mp hj
  rw [(jobs_mem m gate _ 0 none j h).1]
  exact hm
theorem flat_len {α β : Type} (f : α → List β) (k : Nat) : ∀ (l : List α), (∀ x ∈ l, (f x).length ≤ k) → (l.flatMap f).length ≤ l.length * k
  | [], _ => Nat.zero_le _
  | x :: r, h => by
    rw [List.flatMap_cons, List.length_append, List.length_cons, Nat.succ_mul]
    have a := h x (List.mem_cons_self ..)
    have b := flat_len f k r fun y hy => h y (List.mem_cons_of_mem _ hy)
    omega
theorem parcels_len (ms : List RowD) (s : List (Int × Str)) (gate : Bool) : (parcelsIn ms s gate).length ≤ ms.length * s.length := by
  refine flat_len _ _ _ fun m _ => ?_
  rw [jobs_len, List.length_map]
  exact List.length_filter_le _ _
/-- more wishes behind: the parcels stay, the new ones are freed late -/
theorem parcels_more (ms : List RowD) (s1 s2 : List (Int × Str)) (gate : Bool) (u : Int) (h : ∀ w ∈ s2, u ≤ w.1) :
    (∀ j ∈ parcelsIn ms s1 gate, j ∈ parcelsIn ms (s1 ++ s2) gate) ∧ ∀ j ∈ parcelsIn ms (s1 ++ s2) gate, j ∈ parcelsIn ms s1 gate ∨ u ≤ j.freed := by
  have key : ∀ m : RowD, ∃ k l, jobsFrom m gate 0 none (((s1 ++ s2).filter fun w => decide (w.2 = m.name)).map (·.1)) = jobsFrom m gate 0 none ((s1.filter fun w => decide (w.2 = m.name)).map (·.1)) ++ jobsFrom m gate k l ((s2.filter fun w => decide (w.2 = m.name)).map (·.1)) := fun m => by
    rw [List.filter_append, List.map_append]
    exact jobs_app m gate _ _ 0 none
  refine ⟨fun j hj => ?_, fun j hj => ?_⟩
  · obtain ⟨m, hm, g⟩ := List.mem_flatMap.mp hj
    obtain ⟨k, l, e⟩ := key m
    exact List.mem_flatMap.mpr ⟨m, hm, by rw [e]; exact List.mem_append.mpr (.inl g)⟩
  · obtain ⟨m, hm, g⟩ := List.mem_flatMap.mp hj
    obtain ⟨k, l, e⟩ := key m
    rw [e] at g
    rcases List.mem_append.mp g with g | g
    · exact .inl (List.mem_flatMap.mpr ⟨m, hm, g⟩)
    · obtain ⟨_, _, t, ht, le⟩ := jobs_mem m gate _ k l j g
      obtain ⟨w, hw, rfl⟩ := List.mem_map.mp ht
      have := h w (List.mem_filter.mp hw).1
      exact .inr (by omega)
/-! ### sorted wishes -/
def wShape : Nat → Bool := fun i => i == 1
def wKey (w : Int × Str) : SKey := [.inl w.1, .inr w.2.cps.toList]
theorem wKey_of (w : Int × Str) : keyD wShape (wishD w) = some (wKey w) := rfl
def wLe (a b : Int × Str) : Prop := skLt (wKey b) (wKey a) = false
theorem wLe_antisymm {a b : Int × Str} (h1 : wLe a b) (h2 : wLe b a) : a = b := by
  have e : wKey b = wKey a := (PyProof.Rows.listOrd PyProof.Rows.itemOrd).total _ _ h1 h2
  unfold wKey at e
  injection e with e1 e2
  injection e2 with e2 _
  injection e1 with e1
  injection e2 with e2
  obtain ⟨a1, ⟨a2⟩⟩ := a
  obtain ⟨b1, ⟨b2⟩⟩ := b
  have e2 : b2.toList = a2.toList := e2
  have e1 : b1 = a1 := e1
  subst e1
  have e3 : b2 = a2 := Array.toList_inj.mp e2
  rw [e3]
theorem wLe_hour {a b : Int × Str} (h : wLe a b) : a.1 ≤ b.1 := by
  unfold wLe skLt wKey at h
  rw [PyProof.Rows.lex_cons] at h
  have h := (Bool.or_eq_false_iff.mp h).1
  have h : decide (b.1 < a.1) = false := h
  have := of_decide_eq_false h
  omega
/-- the wishes in their order -/
def SortedOf (s w : List (Int × Str)) : Prop := s.Perm w ∧ s.Pairwise wLe
theorem SortedOf.unique {s1 s2 w1 w2 : List (Int × Str)} (h1 : SortedOf s1 w1) (h2 : SortedOf s2 w2) (hp : w1.Perm w2) : s1 = s2 :=
  List.Perm.eq_of_pairwise (fun _ _ _ _ => wLe_antisymm) h1.2 h2.2 ((h1.1.trans hp).trans h2.1.symm)
theorem split_at (u : Int) : ∀ {s : List (Int × Str)}, s.Pairwise wLe → s = (s.filter fun w => decide (w.1 < u)) ++ (s.filter fun w => !decide (w.1 < u))
  | [], _ => rfl
  | x :: r, h => by
    obtain ⟨h1, h2⟩ := List.pairwise_cons.mp h
    rw [List.filter_cons, List.filter_cons]
    by_cases hx : x.1 < u
    · rw [if_pos (by rw [decide_eq_true hx]), if_neg (by rw [decide_eq_true hx]; simp), List.cons_append, ← split_at u h2]
    · have none : r.filter (fun w => decide (w.1 < u)) = [] := by
        rw [List.filter_eq_nil_iff]
        intro w hw
        have := wLe_hour (h1 w hw)
        simp
        omega
      have all : r.filter (fun w => !decide (w.1 < u)) = r := by
        rw [List.filter_eq_self]
        intro w hw
        have := wLe_hour (h1 w hw)
        simp
        omega
      rw [if_neg (by rw [decide_eq_false hx]; simp), if_pos (by rw [decide_eq_false hx]; rfl), none, all]
      rfl
/-- the earlier wishes begin the later ones -/
theorem sorted_prefix {s1 s2 w1 w2 : List (Int × Str)} {u : Int} (h1 : SortedOf s1 w1) (h2 : SortedOf s2 w2) (hp : w1.Perm (w2.filter fun w => decide (w.1 < u))) : ∃ r, s2 = s1 ++ r ∧ ∀ w ∈ r, u ≤ w.1 := by
  refine ⟨s2.filter fun w => !decide (w.1 < u), ?_, fun w hw => ?_⟩
  · have e : s1 = s2.filter fun w => decide (w.1 < u) := h1.unique (s2 := s2.filter fun w => decide (w.1 < u)) ⟨h2.1.filter _, h2.2.filter _⟩ hp
    rw [e]
    exact split_at u h2.2
  · have h := (List.mem_filter.mp hw).2
    simp at h
    exact h
end K57
set_option Elab.async false
set_option linter.all false
set_option maxRecDepth 100000
set_option maxHeartbeats 4000000
namespace K57
open PySem L2 Pw
/-- an expression that ends at v, whatever comes behind -/
theorem te_at {te : TE} {σ : L2.St} {H H' : Hp} {Q : VK} (v : V) (h : ∀ Q : VK, Q v H' → te σ H Q) (q : Q v H') : te σ H Q := h Q q
def optV : Option Int → V
  | none => .non
  | some i => .int i
def parF (m : Addr) (j : Job) (e : Option Int) : List (Str × V) := [("kind", .ref m), ("place", .int j.place), ("arrived", .int j.arr), ("freed", .int j.freed), ("ended", optV e)]
def ParAt (K : PySem.W.Frag) (H : Hp) (a m : Addr) (j : Job) (e : Option Int) : Prop := ∃ dx, H a = some (.ins (He.ga K "Parcel") dx (parF m j e))
theorem ParAt.kp {K : PySem.W.Frag} {S : List Addr} {g : Bool} {H H' : Hp} {a m : Addr} {j : Job} {e : Option Int} (h : ParAt K H a m j e) (k : Kg g S H H') (n : a ∉ S) : ParAt K H' a m j e := by
  obtain ⟨dx, q⟩ := h
  exact ⟨dx, k.ins q n⟩
def jobRow (j : Job) (h : Int) : PyData := .tuple [.str j.m.name, .int j.place, .int h, .int j.arr, .int j.freed, .int j.m.most]
def lastArr (m : RowD) : Option Int → List Int → Option Int
  | last, [] => last
  | last, h :: r => lastArr m (some (arrOf m last h)) r
theorem lastArr_snoc (m : RowD) : ∀ (hs : List Int) (last : Option Int) (h : Int), lastArr m last (hs ++ [h]) = some (arrOf m (lastArr m last hs) h)
  | [], _, _ => rfl
  | x :: r, last, h => lastArr_snoc m r _ h
theorem jobs_snoc (m : RowD) (g : Bool) : ∀ (hs : List Int) (k : Nat) (last : Option Int) (h : Int), jobsFrom m g k last (hs ++ [h]) = jobsFrom m g k last hs ++ [⟨m, ((k + hs.length : Nat) : Int), arrOf m (lastArr m last hs) h, relOf g h (arrOf m (lastArr m last hs) h)⟩]
  | [], _, _, _ => rfl
  | x :: r, k, last, h => by
    show _ :: jobsFrom m g (k + 1) _ (r ++ [h]) = _ :: (jobsFrom m g (k + 1) _ r ++ _)
    rw [jobs_snoc m g r]
    rw [show k + 1 + r.length = k + (x :: r).length by simp; omega]
    rfl
def spJobs (K : PySem.W.Frag) : Sp := fun vs H Q _ => ∃ (m l : Addr) (r : RowD) (hs : List Int) (gate : Bool), vs = [.ref m, .ref l, .bl gate] ∧ MsgAt K H m r ∧ LD H l (hs.map fun h => .tuple [.int h, .int r.most]) ∧ hs.length ≤ 100 ∧
  ∀ (f : Addr) (H' : Hp), H f = none → Kp [] H H' → LD H' f (List.zipWith jobRow (jobsFrom r gate 0 none hs) hs) → Q (.ref f) H'
def spPar (K : PySem.W.Frag) : Sp := fun vs H Q _ => ∃ (a dx m p : Addr) (j : Job) (h : Int), vs = [.ref a, .ref m, .ref p] ∧ H a = some (.ins (He.ga K "Parcel") dx []) ∧ DT H (.ref p) (jobRow j h) ∧ ∀ H', Kp [a] H H' → ParAt K H' a m j none → Q .non H'
def spDone (K : PySem.W.Frag) : Sp := fun vs H Q _ => ∃ (a m : Addr) (j : Job) (e : Option Int), vs = [.ref a] ∧ ParAt K H a m j e ∧ MsgAt K H m j.m ∧ Q (.int (match e with | none => 0 | some _ => j.m.most)) H
section
variable {P : Program} {w : World} {K : PySem.W.Frag} {mg : Str → Option Value} {base : Heap}
-- slots: 0 task, 1 rows, 2 gate, 3 found, 4 last, 5 number, 6 hour, 7 work, 8 arrival, 9 release
theorem ok_jobs_of (T : Txt K mg) : ∃ fd, FnOk P w K mg base CX0 1 (He.ga K "jobs_of") fd ["task", "rows", "gate"] (spJobs K) ∧ Binds K fd ["task", "rows", "gate"] [] := by
  obtain ⟨fd, F⟩ := T.f_jobs_of
  refine ⟨fd, F.ok sc_jobs_of (fun vs H Q E h => ?_) (fun cdv A outer s H vs Q E hr h => ?_), F.bindsN fun _ _ _ _ _ _ us hl => match us, hl with | [_, _, _], _ => rfl⟩
  · obtain ⟨m, l, r, hs, gate, rfl, _⟩ := h
    rfl
  · obtain ⟨m, l, r, hs, gate, rfl, hm, hl, hlen, k⟩ := h
    refine ⟨_, PSs.nox (pss_cons (ps_set (i := 3) sc_jobs_of.nd rfl (Or.inl rfl) (pe_lst pa_nil))
      (pss_cons (ps_set (i := 4) sc_jobs_of.nd rfl (Or.inl rfl) pe_non)
      (pss_cons (ps_for PassesOwn.never rfl (pi_enum (by rfl) T.b_enumerate (pa_cons (pv 1) pa_nil)) (pg_tup rfl (pgs_cons (pg_name (i := 5) sc_jobs_of.nd rfl (Or.inl rfl)) (pgs_cons (pg_tup rfl (pgs_cons (pg_name (i := 6) sc_jobs_of.nd rfl (Or.inl rfl)) (pgs_cons (pg_name (i := 7) sc_jobs_of.nd rfl (Or.inl rfl)) pgs_nil))) pgs_nil)))
          (pss_cons (ps_set (i := 8) sc_jobs_of.nd rfl (Or.inl rfl) (pe_ifExp (pt_cmpR (op_isN) (pv 4) pe_non (nomark _)) (pe_op op_sub (pv 6) (pe_fld (pv 0) rfl)) (pe_callB (call_max2 rfl) (by rfl) T.b_max (by decide +kernel) (pa_cons (pe_op op_sub (pv 6) (pe_fld (pv 0) rfl)) (pa_cons (pe_op op_add (pv 4) (pe_fld (pv 0) rfl)) pa_nil)))))
          (pss_cons (ps_set (i := 9) sc_jobs_of.nd rfl (Or.inl rfl) (pe_ifExp (pt_val (pv 2)) (pe_callB (call_max2 rfl) (by rfl) T.b_max (by decide +kernel) (pa_cons (pv 6) (pa_cons (pv 8) pa_nil))) (pv 6)))
          (pss_cons (ps_expr (pe_bm PySem.F.plainAttrs_list PySem.F.slot_list_append PySem.F.type_list_append mt_append (pv 3) (pa_cons (pe_tup (pa_cons (pe_fld (pv 0) rfl) (pa_cons (pv 5) (pa_cons (pv 6) (pa_cons (pv 8) (pa_cons (pv 9) (pa_cons (pv 7) pa_nil))))))) pa_nil)))
          (pss_one (ps_set (i := 4) sc_jobs_of.nd rfl (Or.inl rfl) (pv 8)))))))
      (pss_one (ps_ret (pv 3)))))), ?_⟩
    refine ⟨szb rfl, fun S hS => ?_⟩
    generalize e : upd _ S _ = H1
    obtain ⟨e1, k1⟩ := newF e hS
    obtain ⟨vs, hv, hds⟩ := (hl.kp k1 n0).ex
    obtain ⟨dm, em⟩ := hm.kp k1 n0
    have cM := T.cl_Message
    have hSl : l ≠ S := (ne_of_none hl.ex.choose_spec.1 hS)
    have hSm : m ≠ S := ne_of em e1 (fun z => nomatch z)
    have hvl := hds.len
    rw [List.length_map] at hvl
    refine ⟨_, rfl, l, vs, rfl, SqL.of hv, ?_⟩
    refine for_it (walk_enum (K := K) (xs := vs)) (fun i σ' H' => (∃ a b c d e, σ' = [some (.ref m), some (.ref l), some (.bl gate), some (.ref S), some (optV (lastArr r none (hs.take i))), a, b, c, d, e]) ∧ Kp [S] H1 H' ∧
      LD H' S (List.zipWith jobRow (jobsFrom r gate 0 none (hs.take i)) (hs.take i))) ?_ (fun _ _ _ _ h => SqL.of (h.2.1.lst hv (n1 hSl))) ?_ ?_
    · exact ⟨⟨_, _, _, _, _, rfl⟩, Kp.refl _ _, ⟨_, e1, .nil⟩⟩
    · rintro i x σ' H3 H4 hi ⟨⟨a, b, c, d, e, rfl⟩, k3, hS3⟩ ⟨q, xi, v, rfl, hq, hH4, hxi, hv3⟩
      obtain rfl : V.int (i : Nat) = xi := by simpa using hxi
      obtain ⟨eq, kq⟩ := newF hH4.symm hq
      obtain ⟨dd, hd, hdt⟩ := ((hds.kp k3).kp kq).get hv3
      have hih : i < hs.length := by omega
      rw [List.getElem?_map, List.getElem?_eq_getElem hih] at hd
      obtain rfl : PyData.tuple [.int hs[i], .int r.most] = dd := by simpa using hd
      obtain ⟨ta, xs, rfl, hta, ht⟩ := hdt.tup_inv
      obtain ⟨v1, w1, rfl, d1, h2⟩ := ht.cons_inv
      obtain ⟨v2, w2, rfl, d2, h3⟩ := h2.cons_inv
      obtain rfl := h3.nil_inv
      obtain rfl := d1.int_inv
      obtain rfl := d2.int_inv
      have em4 := kq.ins (k3.ins em (n1 hSm)) n0
      refine ⟨q, _, rfl, SqT.of eq, rfl, _, _, rfl, ?_⟩
      refine ⟨_, _, rfl, ta, _, rfl, SqT.of hta, rfl, _, _, rfl, _, _, rfl, rfl, rfl, ?_⟩
      refine te_at (H' := H4) (.int (arrOf r (lastArr r none (hs.take i)) hs[i])) (fun Q q => ?_) ?_
      · refine ⟨_, rfl, rfl, _, rfl, ?_⟩
        cases hlo : lastArr r none (hs.take i) with
        | none =>
          rw [hlo] at q
          exact iteT ⟨_, rfl, _, rfl, m, _, dm, _, _, rfl, em4, cM, T.na_Message_wait, rfl, _, _, rfl, rfl, q⟩
        | some lo =>
          rw [hlo] at q
          exact iteF ⟨_, rfl, _, rfl, m, _, dm, _, _, rfl, em4, cM, T.na_Message_wait, rfl, _, _, rfl, rfl, _, rfl, _, rfl, m, _, dm, _, _, rfl, em4, cM, T.na_Message_gap, rfl, _, _, rfl, rfl, _, _, rfl, q⟩
      generalize har : arrOf r (lastArr r none (hs.take i)) hs[i] = ar
      cases gate with
      | true =>
        refine ⟨_, rfl, true, rfl, _, rfl, _, rfl, _, _, rfl, ?_⟩
        obtain ⟨ss, es, hss⟩ := (hS3.kp kq n0).ex
        refine ⟨_, rfl, tyL es, _, rfl, m, _, dm, _, _, rfl, em4, cM, T.na_Message_name, rfl, _, rfl, _, rfl, _, rfl, _, rfl, _, rfl, szb rfl, fun p hp => ?_⟩
        generalize e : upd _ p _ = H5
        obtain ⟨e5, k5⟩ := newF e hp
        have hsl := hss.len
        have es5 := k5.lst es n0
        refine ⟨S, ss, _, rfl, rfl, es5, ?_, ?_⟩
        · rw [hsl, List.length_zipWith, List.length_take]
          exact small1000 (by omega)
        generalize e : upd _ S _ = H6
        obtain ⟨e6, k6⟩ := putL e es5
        have htk : hs.take (i + 1) = hs.take i ++ [hs[i]] := List.take_succ_eq_append_getElem hih
        have htl : (hs.take i).length = i := by rw [List.length_take]; omega
        have hla : optV (lastArr r none (hs.take (i + 1))) = .int ar := by rw [htk, lastArr_snoc, har]; rfl
        refine ⟨_, rfl, by rw [hla]; exact ⟨_, _, _, _, _, rfl⟩, (k3.trans (kq.trans k5).any).trans k6, ⟨_, e6, ?_⟩⟩
        · rw [htk, jobs_snoc, List.zipWith_append (by rw [jobs_len])]
          rw [har, htl, Nat.zero_add]
          exact (hss.kp (k5.trans (Kp.refl _ _)) |>.kp k6).app (.one (.tup (k6.tup _ _ e5) (.cons (.str _) (.cons (.int _) (.cons (.int _) (.cons (.int _) (.cons (.int _) (.cons (.int _) .nil))))))))
      | false =>
        refine ⟨_, rfl, false, rfl, _, rfl, ?_⟩
        obtain ⟨ss, es, hss⟩ := (hS3.kp kq n0).ex
        refine ⟨_, rfl, tyL es, _, rfl, m, _, dm, _, _, rfl, em4, cM, T.na_Message_name, rfl, _, rfl, _, rfl, _, rfl, _, rfl, _, rfl, szb rfl, fun p hp => ?_⟩
        generalize e : upd _ p _ = H5
        obtain ⟨e5, k5⟩ := newF e hp
        have hsl := hss.len
        have es5 := k5.lst es n0
        refine ⟨S, ss, _, rfl, rfl, es5, ?_, ?_⟩
        · rw [hsl, List.length_zipWith, List.length_take]
          exact small1000 (by omega)
        generalize e : upd _ S _ = H6
        obtain ⟨e6, k6⟩ := putL e es5
        have htk : hs.take (i + 1) = hs.take i ++ [hs[i]] := List.take_succ_eq_append_getElem hih
        have htl : (hs.take i).length = i := by rw [List.length_take]; omega
        have hla : optV (lastArr r none (hs.take (i + 1))) = .int ar := by rw [htk, lastArr_snoc, har]; rfl
        refine ⟨_, rfl, by rw [hla]; exact ⟨_, _, _, _, _, rfl⟩, (k3.trans (kq.trans k5).any).trans k6, ⟨_, e6, ?_⟩⟩
        · rw [htk, jobs_snoc, List.zipWith_append (by rw [jobs_len])]
          rw [har, htl, Nat.zero_add]
          exact (hss.kp (k5.trans (Kp.refl _ _)) |>.kp k6).app (.one (.tup (k6.tup _ _ e5) (.cons (.str _) (.cons (.int _) (.cons (.int _) (.cons (.int _) (.cons (.int _) (.cons (.int _) .nil))))))))
    · rintro σ' H3 ⟨⟨a, b, c, d, e, rfl⟩, k3, hS3⟩
      rw [hvl, List.take_length] at hS3
      exact ⟨_, rfl, k S H3 hS (k1.mut k3 hS) hS3⟩
-- slots: 0 self, 1 message, 2 row, 3 name, 4 number, 5 hour, 6 arrival, 7 release, 8 work
theorem ok_Parcel___init__ (T : Txt K mg) : ∃ fd, FnOk P w K mg base CX0 1 (He.ma K (He.ga K "Parcel") "__init__") fd ["self", "message", "row"] (spPar K) ∧ Binds K fd ["self", "message", "row"] [] := by
  obtain ⟨fd, F⟩ := T.f_Parcel___init__
  refine ⟨fd, F.ok sc_Parcel___init__ (fun vs H Q E h => ?_) (fun cdv A outer s H vs Q E hr h => ?_), F.bindsN fun _ _ _ _ _ _ us hl => match us, hl with | [_, _, _], _ => rfl⟩
  · obtain ⟨a, dx, m, p, j, h, rfl, _⟩ := h
    rfl
  · obtain ⟨a, dx, m, p, j, h, rfl, ha, hp, k⟩ := h
    refine ⟨_, PSs.nox (pss_cons (ps_asg (pv 2) (pg_tup rfl (pgs_cons (pg_name (i := 3) sc_Parcel___init__.nd rfl (Or.inl rfl)) (pgs_cons (pg_name (i := 4) sc_Parcel___init__.nd rfl (Or.inl rfl)) (pgs_cons (pg_name (i := 5) sc_Parcel___init__.nd rfl (Or.inl rfl)) (pgs_cons (pg_name (i := 6) sc_Parcel___init__.nd rfl (Or.inl rfl)) (pgs_cons (pg_name (i := 7) sc_Parcel___init__.nd rfl (Or.inl rfl)) (pgs_cons (pg_name (i := 8) sc_Parcel___init__.nd rfl (Or.inl rfl)) pgs_nil))))))))
      (pss_cons (ps_fld (pv 0) (pv 1) rfl)
      (pss_cons (ps_fld (pv 0) (pv 4) rfl)
      (pss_cons (ps_fld (pv 0) (pv 6) rfl)
      (pss_cons (ps_fld (pv 0) (pv 7) rfl)
      (pss_one (ps_fld (pv 0) pe_non rfl))))))), ?_⟩
    obtain ⟨q, xs, e, hq, h0⟩ := hp.tup_inv
    cases e
    obtain ⟨v1, w1, rfl, d1, h2⟩ := h0.cons_inv
    obtain ⟨v2, w2, rfl, d2, h3⟩ := h2.cons_inv
    obtain ⟨v3, w3, rfl, d3, h4⟩ := h3.cons_inv
    obtain ⟨v4, w4, rfl, d4, h5⟩ := h4.cons_inv
    obtain ⟨v5, w5, rfl, d5, h6⟩ := h5.cons_inv
    obtain ⟨v6, w6, rfl, d6, h7⟩ := h6.cons_inv
    obtain rfl := h7.nil_inv
    obtain rfl := d1.str_inv
    obtain rfl := d2.int_inv
    obtain rfl := d3.int_inv
    obtain rfl := d4.int_inv
    obtain rfl := d5.int_inv
    obtain rfl := d6.int_inv
    have cP := T.cl_Parcel
    refine ⟨_, rfl, p, _, rfl, SqT.of hq, rfl, _, _, rfl, _, _, rfl, _, _, rfl, _, _, rfl, _, _, rfl, _, _, rfl, rfl, ?_⟩
    refine ⟨_, rfl, _, rfl, a, _, dx, _, rfl, ha, cP, T.na_Parcel_kind, fl1000 rfl, ?_⟩
    generalize e : upd _ a _ = H1
    obtain ⟨e1, k1⟩ := putI e ha
    refine ⟨_, rfl, _, rfl, a, _, dx, _, rfl, e1, cP, T.na_Parcel_place, fl1000 rfl, ?_⟩
    generalize e : upd _ a _ = H2
    obtain ⟨e2, k2⟩ := putI e e1
    refine ⟨_, rfl, _, rfl, a, _, dx, _, rfl, e2, cP, T.na_Parcel_arrived, fl1000 rfl, ?_⟩
    generalize e : upd _ a _ = H3
    obtain ⟨e3, k3⟩ := putI e e2
    refine ⟨_, rfl, _, rfl, a, _, dx, _, rfl, e3, cP, T.na_Parcel_freed, fl1000 rfl, ?_⟩
    generalize e : upd _ a _ = H4
    obtain ⟨e4, k4⟩ := putI e e3
    refine ⟨_, rfl, a, _, dx, _, rfl, e4, cP, T.na_Parcel_ended, fl1000 rfl, ?_⟩
    generalize e : upd _ a _ = H5
    obtain ⟨e5, k5⟩ := putI e e4
    exact k H5 ((((k1.trans k2).trans k3).trans k4).trans k5) ⟨dx, e5⟩
-- slots: 0 self
theorem ok_Parcel_done_ticks (T : Txt K mg) : ∃ fd, FnOk P w K mg base CX0 1 (He.ma K (He.ga K "Parcel") "done_ticks") fd ["self"] (spDone K) ∧ Binds K fd ["self"] [] := by
  obtain ⟨fd, F⟩ := T.f_Parcel_done_ticks
  refine ⟨fd, F.ok sc_Parcel_done_ticks (fun vs H Q E h => ?_) (fun cdv A outer s H vs Q E hr h => ?_), F.bindsN fun _ _ _ _ _ _ us hl => match us, hl with | [_], _ => rfl⟩
  · obtain ⟨a, m, j, e, rfl, _⟩ := h
    rfl
  · obtain ⟨a, m, j, e, rfl, ha, hm, k⟩ := h
    refine ⟨_, PSs.nox (pss_one (ps_ret (pe_ifExp (pt_cmpR (op_isN) (pe_fld (pv 0) rfl) pe_non (nomark _)) pe_int (pe_fld (pe_fld (pv 0) rfl) rfl)))), ?_⟩
    obtain ⟨dx, ea⟩ := ha
    obtain ⟨dm, em⟩ := hm
    have cP := T.cl_Parcel
    refine ⟨_, rfl, a, _, dx, _, _, rfl, ea, cP, T.na_Parcel_ended, rfl, rfl, ?_⟩
    cases e with
    | none => exact ⟨_, rfl, iteT k⟩
    | some i => exact ⟨_, rfl, iteF ⟨_, rfl, a, _, dx, _, _, rfl, ea, cP, T.na_Parcel_kind, rfl, m, _, dm, _, _, rfl, em, T.cl_Message, T.na_Message_most, rfl, k⟩⟩
end
end K57
set_option Elab.async false
set_option linter.all false
set_option maxRecDepth 100000
set_option maxHeartbeats 4000000
namespace K57
open PySem L2 Pw
structure Par where
  a : Addr
  m : Addr
  j : Job
def PsAt (K : PySem.W.Frag) (H : Hp) (ps : List Par) (E : List Int → Option Int) : Prop := ∀ p ∈ ps, ParAt K H p.a p.m p.j (E p.j.key) ∧ MsgAt K H p.m p.j.m
def spParcels (K : PySem.W.Frag) : Sp := fun vs H Q _ => ∃ (b bn l : Addr) (ms : List (Addr × RowD)) (ws : List (Int × Str)) (gate : Bool), vs = [.ref b, .ref l, .bl gate] ∧ BusAt K H b bn ms ∧ LD H l (ws.map wishD) ∧ ws.length ≤ 60 ∧ ms.length ≤ 15 ∧
  ∀ (f : Addr) (ps : List Par) (H' : Hp), H f = none → Kp [] H H' → H' f = some (.lst (ps.map fun p => .ref p.a)) → PsAt K H' ps (fun _ => none) → (∀ p ∈ ps, H p.a = none) → (ps.map (·.a)).Nodup → (∀ s, SortedOf s ws → ps.map (·.j) = parcelsIn (ms.map (·.2)) s gate) → Q (.ref f) H'
section
variable {P : Program} {w : World} {K : PySem.W.Frag} {mg : Str → Option Value} {base : Heap}
-- slots: 0 bus, 1 wishes, 2 gate, 3 found, 4 one(cell), 5 rows, 6 hour(own), 7 name(own), 8 row(own)
theorem ok_parcels_in (T : Txt K mg) : ∃ fd, FnOk P w K mg base CX0 3 (He.ga K "parcels_in") fd ["bus", "wishes", "gate"] (spParcels K) ∧ Binds K fd ["bus", "wishes", "gate"] [] := by
  obtain ⟨fd, F⟩ := T.f_parcels_in
  obtain ⟨_, G_Bus_messages, b_Bus_messages⟩ := ok_Bus_messages (P := P) (w := w) (base := base) T
  obtain ⟨_, G_Parcel___init__, b_Parcel___init__⟩ := ok_Parcel___init__ (P := P) (w := w) (base := base) T
  obtain ⟨_, G_jobs_of, b_jobs_of⟩ := ok_jobs_of (P := P) (w := w) (base := base) T
  refine ⟨fd, F.ok sc_parcels_in (fun vs H Q E h => ?_) (fun cdv A outer s H vs Q E hr h => ?_), F.bindsN fun _ _ _ _ _ _ us hl => match us, hl with | [_, _, _], _ => rfl⟩
  · obtain ⟨b, bn, l, ms, ws, gate, rfl, _⟩ := h
    rfl
  · obtain ⟨b, bn, l, ms, ws, gate, rfl, hb, hl, hwl, hml, k⟩ := h
    refine ⟨_, PSs.nox (pss_cons (ps_set (i := 3) sc_parcels_in.nd rfl (Or.inl rfl) (pe_lst pa_nil))
      (pss_cons (ps_for PassesOwn.never rfl (pi_list (pe_meth0 (pv 0) T.cl_Bus T.m_Bus_messages G_Bus_messages (hr.mono (by decide)) b_Bus_messages .nil pass0)) (pg_name (i := 4) sc_parcels_in.nd rfl (Or.inr rfl))
          (pss_cons (ps_setLc (i := 5) (own := [("hour", 6), ("name", 7)]) rfl sc_parcels_in.nd rfl rfl (sw_true rfl rfl rfl (by decide +kernel)) (pi_list (pe_callB cr_sortedT (by rfl) T.b_sorted (by decide +kernel) (pa_cons (pv 1) pa_nil))) (blkOk_by (N := N_parcels_in) (sc := defScope s_parcels_in) (by decide +kernel)) (fun _ _ _ _ _ => (pg_tupK (n := 2) K rfl rfl (pgs_cons (pg_name (i := 6) sc_parcels_in.nd rfl (Or.inl rfl)) (pgs_cons (pg_name (i := 7) sc_parcels_in.nd rfl (Or.inl rfl)) pgs_nil)))) (fun _ _ _ _ _ => (pts_one (pt_cmpR (op_eq) (pv 7) (pe_fldK K rfl (pv 4) rfl) (nomark _)))) (fun _ _ _ _ _ => (pe_tup (pa_cons (pv 6) (pa_cons (pe_fldK K rfl (pv 4) rfl) pa_nil)))))
          (pss_one (ps_expr (pe_bm PySem.F.plainAttrs_list PySem.F.slot_list_extend PySem.F.type_list_extend mt_extend (pv 3) (pa_cons (pe_lc (own := [("row", 8)]) rfl sc_parcels_in.nd (pi_list (pe_call G_jobs_of (hr.mono (by decide)) rfl T.g_jobs_of T.k_jobs_of b_jobs_of .nil pass0 (pa_cons (pv 4) (pa_cons (pv 5) (pa_cons (pv 2) pa_nil))))) (blkOk_by (N := N_parcels_in) (sc := defScope s_parcels_in) (by decide +kernel)) (fun _ _ _ _ _ => (pg_name (i := 8) sc_parcels_in.nd rfl (Or.inl rfl))) (fun _ _ _ _ _ => pts_nil) (fun _ _ _ _ _ => (pe_make T.mk_Parcel G_Parcel___init__ (hr.mono (by decide)) rfl T.g_Parcel b_Parcel___init__ .nil pass0 (pa_cons (pv 4) (pa_cons (pv 8) pa_nil))))) pa_nil))))))
      (pss_one (ps_ret (pv 3))))), ?_⟩
    refine ⟨szb rfl, fun F hF => ?_⟩
    generalize e : upd _ F _ = H1
    obtain ⟨e1, k1⟩ := newF e hF
    obtain ⟨dxb, br, kvs, h1, h2, h3, h4, h5⟩ := hb.kp k1 (fun _ _ => n0)
    refine ⟨_, rfl, b, dxb, _, rfl, h1, rfl, b, bn, ms, rfl, ⟨dxb, br, kvs, h1, h2, h3, h4, h5⟩, fun L H2 hL k2 eL => ?_⟩
    have hLF : L ≠ F := (ne_of_none e1 hL).symm
    have hlF : l ≠ F := ne_of_none hl.ex.choose_spec.1 hF
    refine ⟨L, rfl, ⟨_, SqL.of eL⟩, ?_⟩
    refine for_it (walk_list (K := K) (xs := ms.map fun m => V.ref m.1)) (fun i σ' H' => (∃ a b', σ' = [some (.ref b), some (.ref l), some (.bl gate), some (.ref F), a, b', none, none, none]) ∧ Kp [F] H2 H' ∧
      ∃ ps : List Par, H' F = some (.lst (ps.map fun p => .ref p.a)) ∧ PsAt K H' ps (fun _ => none) ∧ (∀ p ∈ ps, H p.a = none) ∧ (ps.map (·.a)).Nodup ∧ ps.length ≤ i * 60 ∧ ∀ s, SortedOf s ws → ps.map (·.j) = parcelsIn ((ms.map (·.2)).take i) s gate) ?_
      (fun _ _ _ _ h => SqL.of (h.2.1.lst eL (n1 hLF))) ?_ ?_
    · exact ⟨⟨_, _, rfl⟩, Kp.refl _ _, [], k2.lst e1 n0, (by intro p h; cases h), (by intro p h; cases h), List.Pairwise.nil, Nat.zero_le _, fun _ _ => rfl⟩
    · rintro i x σ' H3 H4 hi ⟨⟨a, b', rfl⟩, k3, ps, eF, hps, hfr, hnd, hpl, hjs⟩ ⟨rfl, hx⟩
      rw [List.length_map] at hi
      rw [List.getElem?_map, List.getElem?_eq_getElem hi] at hx
      obtain rfl : V.ref ms[i].1 = x := by simpa using hx
      have hmF : ms[i].1 ≠ F := by
        obtain ⟨d, e⟩ := h5 _ (List.getElem_mem hi)
        exact ne_of e e1 (fun z => nomatch z)
      obtain ⟨dm, em⟩ := ((h5 _ (List.getElem_mem hi)).kp k2 n0).kp k3 (n1 hmF)
      generalize hr0 : ms[i].2 = r at em
      generalize hma : ms[i].1 = m at em hmF
      have k04 : Kp [] H H4 := (k1.trans k2).mut k3 hF
      refine ⟨_, rfl, l, ws.map wishD, wShape, rfl, hl.kp k04 n0, fun d hd => ?_, fun S H5 es hS k5 hS5 hperm hsort => ?_⟩
      · obtain ⟨w, _, rfl⟩ := List.mem_map.mp hd
        exact ⟨_, wKey_of w⟩
      obtain ⟨s, hsp, rfl⟩ := perm_map_inv hperm rfl
      have hso : SortedOf s ws := ⟨hsp, (List.pairwise_map.mp hsort).imp fun {a b} h => h _ _ (wKey_of a) (wKey_of b)⟩
      have hsl := hsp.length_eq
      obtain ⟨vs, eS, hvs⟩ := hS5.ex
      have hvl := hvs.len
      rw [List.length_map] at hvl
      have cM := T.cl_Message
      refine ⟨S, rfl, ⟨_, SqL.of eS⟩, fun D hD => ?_⟩
      refine lc_it (walk_list (K := K) (xs := vs)) (fun j H' => LD H' D (((s.take j).filter fun w => decide (w.2 = r.name)).map fun w => .tuple [.int w.1, .int r.most]) ∧ Kp [] H5 H') ?_ (fun _ H' _ h => SqL.of (h.2.lst eS n0)) ?_ ?_
      · generalize e : upd _ D _ = H6
        obtain ⟨e6, k6⟩ := newF e hD
        exact ⟨⟨_, e6, .nil⟩, k6⟩
      · rintro j y H6 H7 hj ⟨hD6, k6⟩ ⟨rfl, hy⟩
        have hj2 : j < s.length := by omega
        obtain ⟨d, hd, hdt⟩ := (hvs.kp k6).get hy
        rw [List.getElem?_map, List.getElem?_eq_getElem hj2] at hd
        obtain rfl : wishD s[j] = d := by simpa using hd
        obtain ⟨ta, xs, rfl, hta, ht⟩ := hdt.tup_inv
        obtain ⟨v1, w1, rfl, d1, g2⟩ := ht.cons_inv
        obtain ⟨v2, w2, rfl, d2, g3⟩ := g2.cons_inv
        obtain rfl := g3.nil_inv
        obtain rfl := d1.int_inv
        obtain rfl := d2.str_inv
        have em7 := k6.ins (k5.ins em n0) n0
        have htk : s.take (j + 1) = s.take j ++ [s[j]] := List.take_succ_eq_append_getElem hj2
        refine ⟨ta, _, rfl, SqT.of hta, rfl, _, _, rfl, _, _, rfl, rfl, rfl, ?_⟩
        by_cases hw : s[j].2 = r.name
        · refine ⟨_, rfl, _, rfl, m, _, dm, _, _, rfl, em7, cM, T.na_Message_name, rfl, rfl, true, congrArg V.bl (decide_eq_true (congrArg V.str hw)), ?_⟩
          refine ⟨_, rfl, _, rfl, m, _, dm, _, _, rfl, em7, cM, T.na_Message_most, rfl, szb rfl, fun q hq => ?_⟩
          generalize e : upd _ q _ = H8
          obtain ⟨e8, k8⟩ := newF e hq
          obtain ⟨us, eD, hus⟩ := (hD6.kp k8 n0).ex
          have hul := hus.len
          rw [List.length_map] at hul
          have hfl := List.length_filter_le (fun w : Int × Str => decide (w.2 = r.name)) (s.take j)
          rw [List.length_take] at hfl
          refine ⟨us, eD, by rw [hul]; exact small1000 (by omega), ?_⟩
          generalize e : upd _ D _ = H9
          obtain ⟨e9, k9⟩ := putL e eD
          refine ⟨⟨_, e9, ?_⟩, (k6.trans k8).mut k9 hD⟩
          rw [htk, List.filter_append, List.map_append, List.filter_cons, if_pos (by rw [hw]; simp)]
          exact (hus.kp k9).app (.one (.tup (k9.tup _ _ e8) (.cons (.int _) (.cons (.int _) .nil))))
        · refine ⟨_, rfl, _, rfl, m, _, dm, _, _, rfl, em7, cM, T.na_Message_name, rfl, rfl, false, congrArg V.bl (decide_eq_false fun e => hw (V.str.inj e)), ?_⟩
          refine ⟨?_, k6⟩
          rw [htk, List.filter_append, List.filter_cons, if_neg (by simpa using hw)]
          simpa using hD6
      · rintro H6 ⟨hD6, k6⟩
        rw [hvl, List.take_length] at hD6
        have k46 : Kp [] H4 H6 := k5.trans k6
        have em6 := k46.ins em n0
        have eF6 := k46.lst eF n0
        generalize hhs : (s.filter fun w => decide (w.2 = r.name)).map (·.1) = hs
        have hD6' : LD H6 D (hs.map fun h => .tuple [.int h, .int r.most]) := by
          rw [← hhs, List.map_map]
          exact hD6
        have hhl : hs.length ≤ 60 := by
          rw [← hhs, List.length_map]
          have := List.length_filter_le (fun w : Int × Str => decide (w.2 = r.name)) s
          omega
        refine ⟨_, rfl, tyL eF6, _, rfl, _, rfl, _, rfl, m, D, r, hs, gate, rfl, ⟨dm, em6⟩, hD6', by omega, fun q H7 hq k7 hq7 => ?_⟩
        obtain ⟨us, eq, hus⟩ := hq7.ex
        have hjl : (jobsFrom r gate 0 none hs).length = hs.length := jobs_len r gate hs 0 none
        have hul := hus.len
        rw [List.length_zipWith, hjl, Nat.min_self] at hul
        refine ⟨q, rfl, ⟨_, SqL.of eq⟩, fun D2 hD2 => ?_⟩
        have hqD2 : q ≠ D2 := ne_of_none eq hD2
        refine lc_it (walk_list (K := K) (xs := us)) (fun j H' => Kp [] H7 H' ∧ ∃ pp : List Par, H' D2 = some (.lst (pp.map fun p => .ref p.a)) ∧ PsAt K H' pp (fun _ => none) ∧ (∀ p ∈ pp, H4 p.a = none) ∧ (pp.map (·.a)).Nodup ∧ pp.map (·.j) = (jobsFrom r gate 0 none hs).take j) ?_
          (fun _ H' _ h => SqL.of (h.1.lst eq n0)) ?_ ?_
        · generalize e : upd _ D2 _ = H8
          obtain ⟨e8, k8⟩ := newF e hD2
          exact ⟨k8, [], e8, (by intro p h; cases h), (by intro p h; cases h), List.Pairwise.nil, rfl⟩
        · rintro j y H8 H9 hj ⟨k8, pp, eD2, hpp, hpf, hpn, hpj⟩ ⟨rfl, hy⟩
          have hj1 : j < (jobsFrom r gate 0 none hs).length := by omega
          have hj2 : j < hs.length := by omega
          obtain ⟨d, hd, hdt⟩ := (hus.kp k8).get hy
          rw [List.getElem?_zipWith, List.getElem?_eq_getElem hj1, List.getElem?_eq_getElem hj2] at hd
          have hd : jobRow (jobsFrom r gate 0 none hs)[j] hs[j] = d := by simpa using hd
          have hjm := jobs_mem r gate hs 0 none _ (List.getElem_mem hj1)
          have htk : (jobsFrom r gate 0 none hs).take (j + 1) = (jobsFrom r gate 0 none hs).take j ++ [(jobsFrom r gate 0 none hs)[j]] := List.take_succ_eq_append_getElem hj1
          generalize (jobsFrom r gate 0 none hs)[j] = jb at hd hjm htk
          subst hd
          obtain ⟨ta, xs, rfl, hta, ht⟩ := hdt.tup_inv
          have k49 : Kp [] H4 H9 := (k46.trans k7).trans k8
          refine ⟨rfl, _, rfl, _, rfl, fun x dx hx hdx hne => ?_⟩
          generalize e : upd (upd _ dx _) x _ = H10
          obtain ⟨e10, k10⟩ := newI e hx hdx hne
          refine ⟨x, dx, m, ta, jb, hs[j], rfl, e10, (DT.tup hta ht).kp k10, fun H11 k11 hpar => ⟨rfl, ?_⟩⟩
          have k911 : Kp [] H9 H11 := k10.mut k11 hx
          have eD211 := k911.lst eD2 n0
          have hppl := congrArg List.length hpj
          rw [List.length_map, List.length_take] at hppl
          refine ⟨_, eD211, by rw [List.length_map]; exact small1000 (by omega), ?_⟩
          generalize e : upd _ D2 _ = H12
          obtain ⟨e12, k12⟩ := putL e eD211
          have k912 : Kp [D2] H9 H12 := k911.any.trans k12
          have pne : ∀ p ∈ pp, p.a ≠ D2 := fun p hp => by
            obtain ⟨⟨d, e⟩, _⟩ := hpp p hp
            exact ne_of e eD2 (fun z => nomatch z)
          have mne : m ≠ D2 := ne_of (k49.ins em n0) eD2 (fun z => nomatch z)
          have xne : x ≠ D2 := by
            obtain ⟨d, e⟩ := hpar
            exact ne_of e eD211 (fun z => nomatch z)
          refine ⟨k8.trans (k911.trans (Kp.refl _ _)) |>.mut k12 hD2, pp ++ [⟨x, m, jb⟩], by rw [e12, List.map_append]; rfl, fun p hp => ?_, fun p hp => ?_, ?_, by rw [List.map_append, hpj, htk]; rfl⟩
          · rcases List.mem_append.mp hp with hp | hp
            · have hpm : p.m ≠ D2 := by
                obtain ⟨_, ⟨d, e⟩⟩ := hpp p hp
                exact ne_of e eD2 (fun z => nomatch z)
              exact ⟨(hpp p hp).1.kp k912 (n1 (pne p hp)), (hpp p hp).2.kp k912 (n1 hpm)⟩
            · rw [List.mem_singleton.mp hp]
              refine ⟨hpar.kp k12 (n1 xne), ?_⟩
              show MsgAt K H12 m jb.m
              rw [hjm.1]
              exact ⟨dm, k912.ins (k49.ins em n0) (n1 mne)⟩
          · rcases List.mem_append.mp hp with hp | hp
            · exact hpf p hp
            · rw [List.mem_singleton.mp hp]
              exact k49.free0 hx
          · rw [List.map_append]
            refine List.nodup_append.mpr ⟨hpn, List.pairwise_singleton _ _, fun a ha b hb => ?_⟩
            obtain ⟨p, hp, rfl⟩ := List.mem_map.mp ha
            rw [List.map_cons, List.map_nil] at hb
            rw [List.mem_singleton.mp hb]
            obtain ⟨⟨d, e⟩, _⟩ := hpp p hp
            exact ne_of_none e hx
        · rintro H8 ⟨k8, pp, eD2, hpp, hpf, hpn, hpj⟩
          rw [hul, ← hjl, List.take_length] at hpj
          have hppl := congrArg List.length hpj
          rw [List.length_map] at hppl
          have k48 : Kp [] H4 H8 := (k46.trans k7).trans k8
          have eF8 := k48.lst eF n0
          refine ⟨F, D2, _, _, rfl, rfl, eF8, eD2, ?_, ?_⟩
          · rw [List.length_map, List.length_map]
            exact Nat.le_of_lt (small1000 (by have : i * 60 ≤ 15 * 60 := Nat.mul_le_mul_right 60 (by omega)
                                              omega))
          · generalize e : upd _ F _ = H9
            obtain ⟨e9, k9⟩ := putL e eF8
            refine ⟨⟨_, _, rfl⟩, (k3.trans k48.any).trans k9, ps ++ pp, by rw [e9, List.map_append], fun p hp => ?_, fun p hp => ?_, ?_, ?_, fun s' hs' => ?_⟩
            · have conv : ∀ p : Par, ParAt K H8 p.a p.m p.j none → MsgAt K H8 p.m p.j.m → ParAt K H9 p.a p.m p.j none ∧ MsgAt K H9 p.m p.j.m := fun p g1 g2 => by
                refine ⟨g1.kp k9 (n1 ?_), g2.kp k9 (n1 ?_)⟩
                · obtain ⟨d, e⟩ := g1
                  exact ne_of e eF8 (fun z => nomatch z)
                · obtain ⟨d, e⟩ := g2
                  exact ne_of e eF8 (fun z => nomatch z)
              rcases List.mem_append.mp hp with hp | hp
              · exact conv p ((hps p hp).1.kp k48 n0) ((hps p hp).2.kp k48 n0)
              · exact conv p (hpp p hp).1 (hpp p hp).2
            · rcases List.mem_append.mp hp with hp | hp
              · exact hfr p hp
              · exact k04.free0 (hpf p hp)
            · rw [List.map_append]
              refine List.nodup_append.mpr ⟨hnd, hpn, fun a ha b hb => ?_⟩
              obtain ⟨p, hp, rfl⟩ := List.mem_map.mp ha
              obtain ⟨q, hq, rfl⟩ := List.mem_map.mp hb
              obtain ⟨⟨d, e⟩, _⟩ := hps p hp
              exact ne_of_none e (hpf q hq)
            · rw [List.length_append]
              have : (i + 1) * 60 = i * 60 + 60 := by omega
              omega
            · have es : s' = s := hs'.unique hso (List.Perm.refl _)
              subst es
              have hi2 : i < (ms.map (·.2)).length := by rw [List.length_map]; exact hi
              rw [List.map_append, hjs s' hs', hpj, show (ms.map (·.2)).take (i + 1) = (ms.map (·.2)).take i ++ [(ms.map (·.2))[i]] from List.take_succ_eq_append_getElem hi2]
              unfold parcelsIn
              rw [List.flatMap_append, List.flatMap_cons, List.flatMap_nil, List.append_nil, List.getElem_map, hr0, hhs]
    · rintro σ' H3 ⟨⟨a, b', rfl⟩, k3, ps, eF, hps, hfr, hnd, hpl, hjs⟩
      refine ⟨_, rfl, k F ps H3 hF ((k1.trans k2).mut k3 hF) eF hps hfr hnd fun s hs => ?_⟩
      rw [hjs s hs, List.length_map, ← List.length_map (f := fun m : Addr × RowD => m.2) (as := ms), List.take_length]
end
end K57
set_option Elab.async false
set_option linter.all false
set_option maxRecDepth 100000
set_option maxHeartbeats 4000000
namespace K57
open PySem L2 Pw
/-! ### the lambda of first_ready -/
def lamQ : Str := "first_ready.<locals>.<lambda>"
theorem lamQ_eq : (("first_ready" : Str) ++ ".<locals>.") ++ "<lambda>" = lamQ := by decide +kernel
def lamPart : Arguments × Expr × Scope := match defBody s_first_ready with
  | _ :: .Return (some (.Call _ _ (kw :: _) _)) _ :: _ => (match kw.value with
    | .Lambda a b s _ => (a, b, s)
    | _ => (defArgs s_first_ready, .Name "x" ⟨0, 0, 0, 0⟩, defScope s_first_ready))
  | _ => (defArgs s_first_ready, .Name "x" ⟨0, 0, 0, 0⟩, defScope s_first_ready)
abbrev N_lam : List Str := ["one"]
theorem sc_lam : FnScope N_lam ["one"] lamPart.2.2 := ⟨rfl, rfl, rfl, by decide +kernel, rfl, by decide +kernel, by decide +kernel⟩
abbrev fr : He.Defn := ("first_ready", none)
/-- the tables of code objects -/
def TT (K : PySem.W.Frag) : List (Addr × Str) := [((He.cT K fr).2, lamQ)]
def tLam (K : PySem.W.Frag) : TE := tTup (tCons (tFld K (tFld K (tVar 0) "kind") "rank") (tCons (tFld K (tVar 0) "place") tNil))
def pickP (ps : List Par) (hour : Int) (E : List Int → Option Int) : Option Par := match ps.filter (fun p => isReady hour E p.j) with
  | [] => none
  | a :: r => some (leastK (fun p => p.j.key) a r)
def keyAt (ps : List Par) (a : Addr) : List Int := match ps.find? (fun q => decide (q.a = a)) with
  | some q => q.j.key
  | none => []
theorem pickP_pick (ps : List Par) (hour : Int) (E : List Int → Option Int) : (pickP ps hour E).map (·.j) = pick (ps.map (·.j)) hour E := by
  unfold pickP pick
  rw [List.filter_map]
  show Option.map _ (match ps.filter (fun p => isReady hour E p.j) with | [] => none | a :: r => some (leastK (fun p => p.j.key) a r)) = match (ps.filter (fun p => isReady hour E p.j)).map (·.j) with | [] => none | a :: r => some (leastK Job.key a r)
  cases ps.filter (fun p => isReady hour E p.j) with
  | nil => rfl
  | cons a r => exact congrArg some (leastK_map Job.key (fun p : Par => p.j.key) (fun p : Par => p.j) r a fun _ _ => rfl).symm
theorem pickP_mem {ps : List Par} {hour : Int} {E : List Int → Option Int} {p : Par} (h : pickP ps hour E = some p) : p ∈ ps := by
  unfold pickP at h
  split at h
  · cases h
  · rename_i a r e
    injection h with h
    have m := leastK_mem (fun p : Par => p.j.key) r a
    rw [h, ← e] at m
    exact (List.mem_filter.mp m).1
def spFirst (K : PySem.W.Frag) : Sp := fun vs H Q _ => ∃ (l : Addr) (hour : Int) (ps : List Par) (E : List Int → Option Int), vs = [.ref l, .int hour] ∧ H l = some (.lst (ps.map fun p => .ref p.a)) ∧ PsAt K H ps E ∧ (ps.map (·.a)).Nodup ∧ ps.length ≤ 900 ∧ LamX.Tabs (TT K) H ∧
  ∀ H', Kw [] H H' → LamX.Tabs (TT K) H' → Q (match pickP ps hour E with | none => .non | some p => .ref p.a) H'
section
variable {P : Program} {w : World} {K : PySem.W.Frag} {mg : Str → Option Value} {base : Heap}
theorem lam_body (T : Txt K mg) {w : World} {P : Program} {base : Heap} : ∀ (A : Around) (outer : List Env) (s : Shared) (H : Hp) (f c : Addr), Room 0 (A.deeper (PyProof.Rows.envOfC lamQ lamPart.2.2 s.heap.objs.size f (.ref c))) →
    PE (cxOf CX0 P w K mg base N_lam lamQ lamPart.2.2 f (.ref c) A outer s H E0) lamPart.2.1 (tLam K) := fun A outer s H f c hr =>
  pe_tup (pa_cons (pe_fldK K rfl (pe_fldK K rfl (pv 0) rfl) rfl) (pa_cons (pe_fldK K rfl (pv 0) rfl) pa_nil))
-- slots: 0 parcels, 1 hour(cell), 2 ready, 3 one(own)
theorem ok_first_ready (T : Txt K mg) (TB : LamX.TabB base mg (He.cT K fr).1 (He.cT K fr).2) : ∃ fd, FnOk P w K mg base CX0 3 (He.ga K "first_ready") fd ["parcels", "hour"] (spFirst K) ∧ Binds K fd ["parcels", "hour"] [] := by
  obtain ⟨fd, F⟩ := T.f_first_ready
  refine ⟨fd, okC (d := fr) F sc_first_ready (fun vs H Q E h => ?_) (fun A outer s H vs Q E hr h => ?_), F.bindsN fun _ _ _ _ _ _ us hl => match us, hl with | [_, _], _ => rfl⟩
  · obtain ⟨l, hour, ps, E, rfl, _⟩ := h
    rfl
  · obtain ⟨l, hour, ps, E0, rfl, hl, hps, hnd, hpl, ht, k⟩ := h
    refine ⟨_, PSs.nox (pss_cons (ps_setLc (i := 2) (own := [("one", 3)]) rfl sc_first_ready.nd rfl rfl (sw_true rfl rfl rfl (by decide +kernel)) (pi_list (pv 0)) (blkOk_by (N := N_first_ready) (sc := defScope s_first_ready) (by decide +kernel)) (fun _ _ _ _ _ => (pg_name (i := 3) sc_first_ready.nd rfl (Or.inl rfl))) (fun _ _ _ _ _ => (pts_one (PW.pt (pw_and (pt_cmpR (op_le) (pe_fldK K rfl (pv 3) rfl) (pv 1) (nomark _)) (pw_and1 (pt_cmpR (op_isN) (pe_fldK K rfl (pv 3) rfl) pe_non (nomark _))))))) (fun _ _ _ _ _ => (pv 3)))
      (pss_one (ps_ret (pe_callBK (cr_minLam (k := 0) (params := lamPart.1) sc_lam (fun _ _ _ us hl => match us, hl with | [_], _ => rfl) hr (lam_body T)) (by rfl) T.b_min (by decide +kernel) (pa_cons (pv 2) pa_nil) (pk_cons (pe_lamV (T := TT K) (q := lamQ) TB rfl lamQ_eq (List.mem_singleton.mpr rfl) (fun p hp _ => by rw [List.mem_singleton.mp hp]) rfl (by decide +kernel)) (pk_cons pe_non pk_nil)))))), ?_⟩
    have cP := T.cl_Parcel
    have cM := T.cl_Message
    refine ⟨_, rfl, l, rfl, ⟨_, SqL.of hl⟩, fun D hD => ?_⟩
    refine lc_it (walk_list (K := K) (xs := ps.map fun p => V.ref p.a)) (fun i H' => H' D = some (.lst (((ps.take i).filter fun p => isReady hour E0 p.j).map fun p => .ref p.a)) ∧ Kp [] H H') ?_ (fun _ H' _ h => SqL.of (h.2.lst hl n0)) ?_ ?_
    · generalize e : upd _ D _ = H1
      exact newF e hD
    · rintro i x H1 H2 hi ⟨eD, k1⟩ ⟨rfl, hx⟩
      rw [List.length_map] at hi
      rw [List.getElem?_map, List.getElem?_eq_getElem hi] at hx
      obtain rfl : V.ref ps[i].a = x := by simpa using hx
      obtain ⟨dp, ep⟩ := (hps _ (List.getElem_mem hi)).1.kp k1 n0
      have htk : ps.take (i + 1) = ps.take i ++ [ps[i]] := List.take_succ_eq_append_getElem hi
      have hfl := List.length_filter_le (fun p : Par => isReady hour E0 p.j) (ps.take i)
      rw [List.length_take] at hfl
      have no : isReady hour E0 ps[i].j = false → H2 D = some (.lst (((ps.take (i + 1)).filter fun p => isReady hour E0 p.j).map fun p => .ref p.a)) ∧ Kp [] H H2 := fun q => by
        refine ⟨?_, k1⟩
        rw [htk, List.filter_append, List.filter_cons, if_neg (by rw [q]; simp)]
        simpa using eD
      refine ⟨rfl, ?_⟩
      by_cases h1 : ps[i].j.freed ≤ hour
      · refine ⟨_, rfl, _, _, dp, _, _, rfl, ep, cP, T.na_Parcel_freed, rfl, _, rfl, _, _, rfl, rfl, true, congrArg V.bl (decide_eq_true h1), ?_⟩
        refine ⟨_, rfl, _, _, dp, _, _, rfl, ep, cP, T.na_Parcel_ended, rfl, rfl, ?_⟩
        cases he : E0 ps[i].j.key with
        | some v => exact ⟨false, rfl, no (by unfold isReady; rw [he]; simp)⟩
        | none =>
          refine ⟨true, rfl, _, rfl, _, eD, by rw [List.length_map]; exact small1000 (by omega), ?_⟩
          generalize e : upd _ D _ = H3
          obtain ⟨e3, k3⟩ := putL e eD
          refine ⟨?_, k1.mut k3 hD⟩
          rw [e3, htk, List.filter_append, List.map_append, List.filter_cons, if_pos (by unfold isReady; rw [he, decide_eq_true h1]; rfl)]
          rfl
      · exact ⟨_, rfl, _, _, dp, _, _, rfl, ep, cP, T.na_Parcel_freed, rfl, _, rfl, _, _, rfl, rfl, false, congrArg V.bl (decide_eq_false h1), no (by unfold isReady; rw [decide_eq_false h1]; rfl)⟩
    · rintro H1 ⟨eD, k1⟩
      rw [List.length_map, List.take_length] at eD
      refine ⟨_, rfl, k1.tabs ht, fun f c H2 hf k2 t2 ef ec => ?_⟩
      have rmem : ∀ p ∈ ps.filter (fun p => isReady hour E0 p.j), p ∈ ps := fun p hp => (List.mem_filter.mp hp).1
      have kfe : ∀ p ∈ ps, keyAt ps p.a = p.j.key := fun p hp => by
        unfold keyAt
        cases q : ps.find? (fun q => decide (q.a = p.a)) with
        | none =>
          have z := List.find?_eq_none.mp q p hp
          simp at z
        | some r =>
          have e : r.a = p.a := by
            have z := List.find?_some q
            simpa using z
          have hr := List.mem_of_find?_eq_some q
          obtain ⟨i, hi, rfl⟩ := List.getElem_of_mem hr
          obtain ⟨j, hj, rfl⟩ := List.getElem_of_mem hp
          rcases Nat.lt_trichotomy i j with h | h | h
          · have := List.pairwise_iff_getElem.mp hnd i j (by rw [List.length_map]; exact hi) (by rw [List.length_map]; exact hj) h
            simp only [List.getElem_map] at this
            exact absurd e this
          · subst h
            rfl
          · have := List.pairwise_iff_getElem.mp hnd j i (by rw [List.length_map]; exact hj) (by rw [List.length_map]; exact hi) h
            simp only [List.getElem_map] at this
            exact absurd e.symm this
      refine ⟨D, f, c, .non, (ps.filter fun p => isReady hour E0 p.j).map (·.a), fun H' => Kp [] H2 H', keyAt ps, rfl, rfl, Kp.refl _ _, fun H' k' => ⟨?_, k'.ext _ _ ef, k'.ext _ _ ec⟩, fun a ha H' Q k' q => ?_, fun hnil => ?_, fun a0 rest H' he k' => ?_⟩
      · refine SqL.of ?_
        rw [List.map_map]
        exact k'.lst (k2.lst eD n0) n0
      · obtain ⟨p, hp, rfl⟩ := List.mem_map.mp ha
        obtain ⟨g1, g2⟩ := hps p (rmem p hp)
        obtain ⟨dp, ep⟩ := ((g1.kp k1 n0).kp k2 n0).kp k' n0
        obtain ⟨dm, em⟩ := ((g2.kp k1 n0).kp k2 n0).kp k' n0
        refine ⟨_, rfl, _, _, dp, _, _, rfl, ep, cP, T.na_Parcel_kind, rfl, _, _, dm, _, _, rfl, em, cM, T.na_Message_rank, rfl, _, rfl, _, _, dp, _, _, rfl, ep, cP, T.na_Parcel_place, rfl, szb rfl, fun t ht => ?_⟩
        generalize e : upd _ t _ = H3
        obtain ⟨e3, k3⟩ := newF e ht
        refine q t H3 (k'.trans k3) k3 ?_
        rw [e3, kfe p (rmem p hp)]
        rfl
      · have hnil : ps.filter (fun p => isReady hour E0 p.j) = [] := List.map_eq_nil_iff.mp hnil
        have z := k H2 (k1.w.trans k2) t2
        unfold pickP at z
        rw [hnil] at z
        exact z
      · cases hfl : ps.filter (fun p => isReady hour E0 p.j) with
        | nil =>
          rw [hfl] at he
          cases he
        | cons p r =>
          rw [hfl, List.map_cons] at he
          injection he with e1 e2
          subst e1 e2
          have z := k H' ((k1.w.trans k2).trans k'.w) (k'.tabs t2)
          unfold pickP at z
          rw [hfl] at z
          rw [leastK_map _ (fun p : Par => p.j.key) (fun p : Par => p.a) r p fun q hq => kfe q (rmem q (by rw [hfl]; exact hq))]
          exact z
end
end K57
set_option Elab.async false
set_option linter.all false
set_option maxRecDepth 100000
set_option maxHeartbeats 4000000
namespace K57
open PySem L2 Pw
theorem Kg_mutL {g : Bool} {S : List Addr} {H H1 H2 : Hp} {p : Addr} (a : Kg g S H H1) (b : Kg g (p :: S) H1 H2) (h : H p = none) : Kg g S H H2 :=
  ⟨fun c o e t n => b.at_ c o (a.at_ c o e t n) t fun m => (List.mem_cons.mp m).elim (ne_of_none e h) n, fun c xs e => b.tup c xs (a.tup c xs e), fun c ps h => by
    obtain ⟨m1, e1, z1⟩ := a.tbl c ps h
    obtain ⟨m2, e2, z2⟩ := b.tbl c _ e1
    exact ⟨m1 ++ m2, by rw [e2, Array.append_assoc], fun q => by rw [z1 q, z2 q]; rfl⟩, fun c o h => b.ext c o (a.ext c o h)⟩
def spStop (K : PySem.W.Frag) : Sp := fun vs H Q _ => ∃ (a l m : Addr) (j : Job) (e : Option Int) (hour : Int) (sp : List Int), vs = [.ref a, .int hour, .ref l] ∧ ParAt K H a m j e ∧ MsgAt K H m j.m ∧ H l = some (.lst (sp.map V.int)) ∧ sp.length ≤ 60 ∧
  ∀ (p : Addr) (H' : Hp), Kp [] H H' → H' p = some (.tup (match badOf sp hour (hour + j.m.most) with | none => [.int (hour + j.m.most), .bl true] | some b => [.int (b + 1), .bl false])) → Q (.ref p) H'
theorem PsAt.kp {K : PySem.W.Frag} {g : Bool} {S : List Addr} {H H' : Hp} {ps : List Par} {E : List Int → Option Int} (h : PsAt K H ps E) (k : Kg g S H H') (n : ∀ p ∈ ps, p.a ∉ S ∧ p.m ∉ S) : PsAt K H' ps E := fun p hp =>
  ⟨(h p hp).1.kp k (n p hp).1, (h p hp).2.kp k (n p hp).2⟩
theorem PsAt.kp0 {K : PySem.W.Frag} {g : Bool} {H H' : Hp} {ps : List Par} {E : List Int → Option Int} (h : PsAt K H ps E) (k : Kg g [] H H') : PsAt K H' ps E := h.kp k fun _ _ => ⟨n0, n0⟩
theorem msg_par {C1 C2 d1 d2 : Addr} {r : RowD} {m : Addr} {j : Job} {e : Option Int} : HO.ins C1 d1 (msgF r) ≠ HO.ins C2 d2 (parF m j e) := fun h => by
  injection h with _ _ h
  injection h with h _
  injection h with h _
  exact absurd h (by decide +kernel)
theorem leastOr_v (u : Int) (ns : List Int) : (match ns with | [] => V.int u | a :: r => .int (leastI a r)) = .int (leastOr u ns) := by
  cases ns <;> rfl
def SRow.d (r : SRow) : PyData := .tuple [.int r.start, .int r.stop, .str r.name, .int r.place, .str r.word]
def spSent (K : PySem.W.Frag) : Sp := fun vs H Q _ => ∃ (l sl : Addr) (u : Int) (ps : List Par) (sp : List Int), vs = [.ref l, .ref sl, .int u] ∧ H l = some (.lst (ps.map fun p => .ref p.a)) ∧ H sl = some (.lst (sp.map V.int)) ∧ PsAt K H ps (fun _ => none) ∧ (ps.map (·.a)).Nodup ∧
  ((ps.map (·.j)).Pairwise fun a b => a.key ≠ b.key) ∧ (∀ p ∈ ps, 1 ≤ p.j.m.most) ∧ ps.length ≤ 400 ∧ sp.length ≤ 60 ∧ LamX.Tabs (TT K) H ∧
  ∀ (r : Addr) (H' : Hp), H r = none → Kw (ps.map (·.a)) H H' → LamX.Tabs (TT K) H' → LD H' r ((fin (ps.map (·.j)) sp u).rows.map SRow.d) → PsAt K H' ps (fin (ps.map (·.j)) sp u).E → Q (.ref r) H'
section
variable {P : Program} {w : World} {K : PySem.W.Frag} {mg : Str → Option Value} {base : Heap}
-- slots: 0 parcel, 1 hour(cell), 2 spoils, 3 stop(cell), 4 bad, 5 tick(own)
theorem ok_stop_of (T : Txt K mg) : ∃ fd, FnOk P w K mg base CX0 1 (He.ga K "stop_of") fd ["parcel", "hour", "spoils"] (spStop K) ∧ Binds K fd ["parcel", "hour", "spoils"] [] := by
  obtain ⟨fd, F⟩ := T.f_stop_of
  refine ⟨fd, F.ok sc_stop_of (fun vs H Q E h => ?_) (fun cdv A outer s H vs Q E hr h => ?_), F.bindsN fun _ _ _ _ _ _ us hl => match us, hl with | [_, _, _], _ => rfl⟩
  · obtain ⟨a, l, m, j, e, hour, sp, rfl, _⟩ := h
    rfl
  · obtain ⟨a, l, m, j, e, hour, sp, rfl, ha, hm, hl, hlen, k⟩ := h
    refine ⟨_, PSs.nox (pss_cons (ps_set (i := 3) sc_stop_of.nd rfl (Or.inr rfl) (pe_op op_add (pv 1) (pe_fld (pe_fld (pv 0) rfl) rfl)))
      (pss_cons (ps_set (i := 4) sc_stop_of.nd rfl (Or.inl rfl) (pe_callBK (cr_minD rfl) (by rfl) T.b_min (by decide +kernel) (pa_cons (pe_lc (own := [("tick", 5)]) rfl sc_stop_of.nd (pi_list (pv 2)) (blkOk_by (N := N_stop_of) (sc := defScope s_stop_of) (by decide +kernel)) (fun _ _ _ _ _ => (pg_name (i := 5) sc_stop_of.nd rfl (Or.inl rfl))) (fun _ _ _ _ _ => (pts_one (pt_chain (op_le) (op_lt) (pv 1) (pv 5) (pv 3)))) (fun _ _ _ _ _ => (pv 5))) pa_nil) (pk_cons pe_non pk_nil)))
      (pss_one (ps_ret (pe_ifExp (pt_cmpR (op_isN) (pv 4) pe_non (nomark _)) (pe_tup (pa_cons (pv 3) (pa_cons pe_bl pa_nil))) (pe_tup (pa_cons (pe_op op_add (pv 4) pe_int) (pa_cons pe_bl pa_nil)))))))), ?_⟩
    obtain ⟨da, ea⟩ := ha
    obtain ⟨dm, em⟩ := hm
    refine ⟨_, rfl, _, rfl, a, _, da, _, _, rfl, ea, T.cl_Parcel, T.na_Parcel_kind, rfl, m, _, dm, _, _, rfl, em, T.cl_Message, T.na_Message_most, rfl, _, _, rfl, rfl, ?_⟩
    refine ⟨_, rfl, l, rfl, ⟨_, SqL.of hl⟩, fun D hD => ?_⟩
    refine lc_it (walk_list (K := K) (xs := sp.map V.int)) (fun i H' => H' D = some (.lst (((sp.take i).filter fun t => decide (hour ≤ t) && decide (t < hour + j.m.most)).map V.int)) ∧ Kp [] H H') ?_ (fun _ H' _ h => SqL.of (h.2.lst hl n0)) ?_ ?_
    · generalize e : upd _ D _ = H1
      exact newF e hD
    · rintro i x H1 H2 hi ⟨eD, k1⟩ ⟨rfl, hx⟩
      rw [List.length_map] at hi
      rw [List.getElem?_map, List.getElem?_eq_getElem hi] at hx
      obtain rfl : V.int sp[i] = x := by simpa using hx
      have htk : sp.take (i + 1) = sp.take i ++ [sp[i]] := List.take_succ_eq_append_getElem hi
      have hfl := List.length_filter_le (fun t => decide (hour ≤ t) && decide (t < hour + j.m.most)) (sp.take i)
      rw [List.length_take] at hfl
      have no : (decide (hour ≤ sp[i]) && decide (sp[i] < hour + j.m.most)) = false → H2 D = some (.lst (((sp.take (i + 1)).filter fun t => decide (hour ≤ t) && decide (t < hour + j.m.most)).map V.int)) ∧ Kp [] H H2 := fun q => by
        refine ⟨?_, k1⟩
        rw [htk, List.filter_append, List.filter_cons, if_neg (by rw [q]; simp)]
        simpa using eD
      refine ⟨rfl, ?_⟩
      by_cases h1 : hour ≤ sp[i]
      · by_cases h2 : sp[i] < hour + j.m.most
        · refine ⟨_, rfl, _, rfl, _, _, rfl, rfl, true, congrArg V.bl (decide_eq_true h1), _, rfl, _, _, rfl, rfl, true, congrArg V.bl (decide_eq_true h2), ?_⟩
          refine ⟨_, rfl, _, eD, by rw [List.length_map]; exact small1000 (by omega), ?_⟩
          generalize e : upd _ D _ = H3
          obtain ⟨e3, k3⟩ := putL e eD
          refine ⟨?_, k1.mut k3 hD⟩
          rw [e3, htk, List.filter_append, List.map_append, List.filter_cons, if_pos (by rw [decide_eq_true h1, decide_eq_true h2]; rfl)]
          rfl
        · exact ⟨_, rfl, _, rfl, _, _, rfl, rfl, true, congrArg V.bl (decide_eq_true h1), _, rfl, _, _, rfl, rfl, false, congrArg V.bl (decide_eq_false h2), no (by rw [decide_eq_true h1, decide_eq_false h2]; rfl)⟩
      · exact ⟨_, rfl, _, rfl, _, _, rfl, rfl, false, congrArg V.bl (decide_eq_false h1), false, rfl, no (by rw [decide_eq_false h1]; rfl)⟩
    · rintro H1 ⟨eD, k1⟩
      rw [List.length_map, List.take_length] at eD
      refine ⟨D, _, .non, rfl, rfl, SqL.of eD, ?_⟩
      unfold badOf at k
      cases hf : sp.filter (fun t => decide (hour ≤ t) && decide (t < hour + j.m.most)) with
      | nil =>
        rw [hf] at k
        refine ⟨_, rfl, rfl, true, rfl, _, rfl, szb rfl, fun p hp => ?_⟩
        generalize e : upd _ p _ = H2
        obtain ⟨e2, k2⟩ := newF e hp
        exact k p H2 (k1.trans k2) e2
      | cons t r =>
        rw [hf] at k
        refine ⟨_, rfl, rfl, false, rfl, _, rfl, _, _, rfl, rfl, szb rfl, fun p hp => ?_⟩
        generalize e : upd _ p _ = H2
        obtain ⟨e2, k2⟩ := newF e hp
        exact k p H2 (k1.trans k2) e2
-- slots: 0 parcels, 1 spoils, 2 until, 3 rows, 4 hour(cell), 5 one, 6 stop, 7 is_sent, 8 word, 9 other(own)
theorem ok_sent_by (T : Txt K mg) (TB : LamX.TabB base mg (He.cT K fr).1 (He.cT K fr).2) : ∃ fd, FnOk P w K mg base CX0 4 (He.ga K "sent_by") fd ["parcels", "spoils", "until"] (spSent K) ∧ Binds K fd ["parcels", "spoils", "until"] [] := by
  obtain ⟨fd, F⟩ := T.f_sent_by
  obtain ⟨_, G_first_ready, b_first_ready⟩ := ok_first_ready (P := P) (w := w) (base := base) T TB
  obtain ⟨_, G_stop_of, b_stop_of⟩ := ok_stop_of (P := P) (w := w) (base := base) T
  refine ⟨fd, F.ok sc_sent_by (fun vs H Q E h => ?_) (fun cdv A outer s H vs Q E hr h => ?_), F.bindsN fun _ _ _ _ _ _ us hl => match us, hl with | [_, _, _], _ => rfl⟩
  · obtain ⟨l, sl, u, ps, sp, rfl, _⟩ := h
    rfl
  · obtain ⟨l, sl, u, ps, sp, rfl, hl, hsl, hps, hnd, hks, hpm, hpl, hspl, ht, k⟩ := h
    refine ⟨_, PSs.nox (pss_cons (ps_set (i := 3) sc_sent_by.nd rfl (Or.inl rfl) (pe_lst pa_nil))
      (pss_cons (ps_set (i := 4) sc_sent_by.nd rfl (Or.inr rfl) pe_int)
      (pss_cons (ps_while PassesOwn.never (pt_cmpR (op_lt) (pv 4) (pv 2) (nomark _))
          (pss_cons (ps_set (i := 5) sc_sent_by.nd rfl (Or.inl rfl) (pe_call G_first_ready (hr.mono (by decide)) rfl T.g_first_ready T.k_first_ready b_first_ready .nil pass0 (pa_cons (pv 0) (pa_cons (pv 4) pa_nil))))
          (pss_cons (ps_if (pt_cmpR (op_isN) (pv 5) pe_non (nomark _))
              (pss_cons (ps_set (i := 4) sc_sent_by.nd rfl (Or.inr rfl) (pe_callBK (cr_minD rfl) (by rfl) T.b_min (by decide +kernel) (pa_cons (pe_lc (own := [("other", 9)]) rfl sc_sent_by.nd (pi_list (pv 0)) (blkOk_by (N := N_sent_by) (sc := defScope s_sent_by) (by decide +kernel)) (fun _ _ _ _ _ => (pg_name (i := 9) sc_sent_by.nd rfl (Or.inl rfl))) (fun _ _ _ _ _ => (pts_one (pt_cmpR (op_gt) (pe_fldK K rfl (pv 9) rfl) (pv 4) (nomark _)))) (fun _ _ _ _ _ => (pe_fldK K rfl (pv 9) rfl))) pa_nil) (pk_cons (pv 2) pk_nil)))
              (pss_one ps_continue))
              pss_nil)
          (pss_cons (ps_asg (pe_call G_stop_of (hr.mono (by decide)) rfl T.g_stop_of T.k_stop_of b_stop_of .nil pass0 (pa_cons (pv 5) (pa_cons (pv 4) (pa_cons (pv 1) pa_nil)))) (pg_tup rfl (pgs_cons (pg_name (i := 6) sc_sent_by.nd rfl (Or.inl rfl)) (pgs_cons (pg_name (i := 7) sc_sent_by.nd rfl (Or.inl rfl)) pgs_nil))))
          (pss_cons (ps_set (i := 8) sc_sent_by.nd rfl (Or.inl rfl) (pe_ifExp (pt_val (pv 7)) pe_str pe_str))
          (C8.pss_cut (ps_if (pt_cmpR (op_gt) (pv 6) (pv 2) (nomark _))
              (pss_one (ps_par (i := 6) (j := 8) (by rfl) sc_sent_by.nd rfl rfl (by decide) rfl rfl (pa_cons (pv 2) (pa_cons pe_str pa_nil)) (by rfl)))
              (pss_one (ps_if (pt_val (pv 7))
                (pss_one (ps_fld (pv 5) (pv 6) rfl))
                pss_nil)))
          (pss_cons (ps_expr (pe_bm PySem.F.plainAttrs_list PySem.F.slot_list_append PySem.F.type_list_append mt_append (pv 3) (pa_cons (pe_tup (pa_cons (pv 4) (pa_cons (pv 6) (pa_cons (pe_fld (pe_fld (pv 5) rfl) rfl) (pa_cons (pe_fld (pv 5) rfl) (pa_cons (pv 8) pa_nil)))))) pa_nil)))
          (pss_one (ps_set (i := 4) sc_sent_by.nd rfl (Or.inr rfl) (pv 6))))))))))
      (pss_one (ps_ret (pv 3)))))), ?_⟩
    have cP := T.cl_Parcel
    have cM := T.cl_Message
    refine ⟨szb rfl, fun R hR => ?_⟩
    generalize e : upd _ R _ = H1
    obtain ⟨e1, k1⟩ := newF e hR
    have hlR : l ≠ R := ne_of_none hl hR
    have hsR : sl ≠ R := ne_of_none hsl hR
    have paR : ∀ p ∈ ps, p.a ≠ R := fun p hp => by
      obtain ⟨⟨d, e⟩, _⟩ := hps p hp
      exact ne_of_none e hR
    have pl : ∀ p ∈ ps, l ≠ p.a := fun p hp => by
      obtain ⟨⟨d, e⟩, _⟩ := hps p hp
      exact ne_of hl e (fun z => nomatch z)
    have psl : ∀ p ∈ ps, sl ≠ p.a := fun p hp => by
      obtain ⟨⟨d, e⟩, _⟩ := hps p hp
      exact ne_of hsl e (fun z => nomatch z)
    generalize hjs : ps.map (·.j) = js
    have hjl : js.length = ps.length := by rw [← hjs, List.length_map]
    have hjm : ∀ j ∈ js, 1 ≤ j.m.most := fun j hj => by
      rw [← hjs] at hj
      obtain ⟨p, hp, rfl⟩ := List.mem_map.mp hj
      exact hpm p hp
    have kne : ∀ p ∈ ps, ∀ q ∈ ps, q ≠ p → q.a ≠ p.a ∧ q.j.key ≠ p.j.key := fun p hp q hq hne => by
      obtain ⟨i, hi, rfl⟩ := List.getElem_of_mem hp
      obtain ⟨j, hj, rfl⟩ := List.getElem_of_mem hq
      rw [← hjs] at *
      have key : ∀ (i j : Nat) (hi : i < ps.length) (hj : j < ps.length), i < j → ps[i].a ≠ ps[j].a ∧ ps[i].j.key ≠ ps[j].j.key := fun i j hi hj h => by
        have h1 := List.pairwise_iff_getElem.mp hnd i j (by rw [List.length_map]; exact hi) (by rw [List.length_map]; exact hj) h
        have h2 := List.pairwise_iff_getElem.mp hks i j (by rw [List.length_map]; exact hi) (by rw [List.length_map]; exact hj) h
        simp only [List.getElem_map] at h1 h2
        exact ⟨h1, h2⟩
      rcases Nat.lt_trichotomy i j with h | h | h
      · exact ⟨(key i j hi hj h).1.symm, (key i j hi hj h).2.symm⟩
      · subst h
        exact absurd rfl hne
      · exact key j i hj hi h
    let Wp : St → L2.St → Hp → Prop := fun st σ' H' => ∃ (a b c d : Option V), σ' = [some (.ref l), some (.ref sl), some (.int u), some (.ref R), some (.int st.hour), a, b, c, d, none] ∧ Reach js sp u st ∧ Kw (R :: ps.map (·.a)) H1 H' ∧ LamX.Tabs (TT K) H' ∧
        LD H' R (st.rows.map SRow.d) ∧ PsAt K H' ps st.E
    refine ⟨fun m σ' H' => ∃ st, m = mu js sp u st ∧ Wp st σ' H', ⟨_, st0, rfl, _, _, _, _, rfl, Reach.start _ _ _, Kg.refl _ _, k1.tabs ht, ⟨_, e1, .nil⟩, hps.kp0 k1⟩, ?_⟩
    rintro m σ' H2 ⟨st, rfl, a, b, c, d, rfl, hR2, k2, t2, r2, p2⟩
    refine ⟨_, rfl, _, rfl, _, _, rfl, rfl, _, rfl, ?_⟩
    have lS : l ∉ R :: ps.map (·.a) := fun h => by
      rcases List.mem_cons.mp h with h | h
      · exact hlR h
      · obtain ⟨p, hp, e⟩ := List.mem_map.mp h
        exact pl p hp e.symm
    have slS : sl ∉ R :: ps.map (·.a) := fun h => by
      rcases List.mem_cons.mp h with h | h
      · exact hsR h
      · obtain ⟨p, hp, e⟩ := List.mem_map.mp h
        exact psl p hp e.symm
    have hl2 := k2.lst (k1.lst hl n0) lS
    have hsl2 := k2.lst (k1.lst hsl n0) slS
    refine ite2 (fun cu => ?_) (fun cu => ?_)
    · have cu : st.hour < u := of_decide_eq_true cu
      obtain ⟨hmu, _, _⟩ := step_mu (sp := sp) hjm cu
      have hnext := hR2.next hjm cu
      refine ⟨Wp (step js sp u st), fun σ3 H3 h => ⟨_, hmu, _, rfl, h⟩, ?_⟩
      refine ⟨_, rfl, _, rfl, l, st.hour, ps, st.E, rfl, hl2, p2, hnd, by omega, t2, fun H3 k3 t3 => ?_⟩
      have hpick := pickP_pick ps st.hour st.E
      rw [hjs] at hpick
      cases hp : pickP ps st.hour st.E with
      | none =>
        have hpn : pick js st.hour st.E = none := by rw [← hpick, hp]; rfl
        have hstep : step js sp u st = { st with hour := nextFree js st.hour u } := by
          unfold step
          rw [if_neg (by omega), hpn]
        rw [hstep] at hnext
        rw [hstep]
        refine ⟨_, rfl, rfl, true, rfl, ?_⟩
        have hl3 := k3.lst hl2 n0
        refine ⟨_, rfl, l, rfl, ⟨_, SqL.of hl3⟩, fun D hD => ?_⟩
        refine lc_it (walk_list (K := K) (xs := ps.map fun p => V.ref p.a)) (fun i H' => H' D = some (.lst ((((ps.take i).filter fun p => decide (p.j.freed > st.hour)).map (fun p => p.j.freed)).map V.int)) ∧ Kp [] H3 H') ?_ (fun _ H' _ h => SqL.of (h.2.lst hl3 n0)) ?_ ?_
        · generalize e : upd _ D _ = H4
          exact newF e hD
        · rintro i x H4 H5 hi ⟨eD, k4⟩ ⟨rfl, hx⟩
          rw [List.length_map] at hi
          rw [List.getElem?_map, List.getElem?_eq_getElem hi] at hx
          obtain rfl : V.ref ps[i].a = x := by simpa using hx
          obtain ⟨dp, ep⟩ := ((p2 _ (List.getElem_mem hi)).1.kp k3 n0).kp k4 n0
          have htk : ps.take (i + 1) = ps.take i ++ [ps[i]] := List.take_succ_eq_append_getElem hi
          have hfl := List.length_filter_le (fun p : Par => decide (p.j.freed > st.hour)) (ps.take i)
          rw [List.length_take] at hfl
          refine ⟨rfl, ?_⟩
          by_cases h1 : st.hour < ps[i].j.freed
          · refine ⟨_, rfl, _, _, dp, _, _, rfl, ep, cP, T.na_Parcel_freed, rfl, _, rfl, _, _, rfl, rfl, true, congrArg V.bl (decide_eq_true h1), ?_⟩
            refine ⟨_, rfl, _, _, dp, _, _, rfl, ep, cP, T.na_Parcel_freed, rfl, _, eD, by rw [List.length_map, List.length_map]; exact small1000 (by omega), ?_⟩
            generalize e : upd _ D _ = H6
            obtain ⟨e6, k6⟩ := putL e eD
            refine ⟨?_, k4.mut k6 hD⟩
            rw [e6, htk, List.filter_append, List.map_append, List.map_append, List.filter_cons, if_pos (decide_eq_true h1)]
            rfl
          · refine ⟨_, rfl, _, _, dp, _, _, rfl, ep, cP, T.na_Parcel_freed, rfl, _, rfl, _, _, rfl, rfl, false, congrArg V.bl (decide_eq_false h1), ?_⟩
            refine ⟨?_, k4⟩
            rw [htk, List.filter_append, List.filter_cons, if_neg (by rw [decide_eq_false (show ¬ ps[i].j.freed > st.hour from h1)]; simp)]
            simpa using eD
        · rintro H4 ⟨eD, k4⟩
          rw [List.length_map, List.take_length] at eD
          refine ⟨_, rfl, D, _, .int u, rfl, rfl, SqL.of eD, ?_⟩
          have hnf : leastOr u ((ps.filter fun p => decide (p.j.freed > st.hour)).map fun p => p.j.freed) = nextFree js st.hour u := by
            unfold nextFree
            rw [← hjs, List.filter_map, List.map_map]
            rfl
          rw [← hnf] at hnext ⊢
          generalize (ps.filter fun p => decide (p.j.freed > st.hour)).map (fun p => p.j.freed) = ns at hnext
          cases ns with
          | nil => exact ⟨_, _, _, _, rfl, hnext, (k2.trans k3.any).trans k4.w.any, k4.tabs t3, (r2.kp k3 n0).kp k4 n0, (p2.kp0 k3).kp0 k4⟩
          | cons n r => exact ⟨_, _, _, _, rfl, hnext, (k2.trans k3.any).trans k4.w.any, k4.tabs t3, (r2.kp k3 n0).kp k4 n0, (p2.kp0 k3).kp0 k4⟩
      | some p =>
        have hpm2 := pickP_mem hp
        have hpn : pick js st.hour st.E = some p.j := by rw [← hpick, hp]; rfl
        have p3 := p2.kp0 k3
        obtain ⟨hpar, hmsg⟩ := p3 p hpm2
        have hsl3 := k3.lst hsl2 n0
        refine ⟨_, rfl, rfl, false, rfl, ?_⟩
        refine ⟨_, rfl, _, rfl, _, rfl, p.a, sl, p.m, p.j, _, st.hour, sp, rfl, hpar, hmsg, hsl3, hspl, fun q H4 k4 eq => ?_⟩
        have hmost := hpm p hpm2
        have p4 := p3.kp0 k4
        obtain ⟨⟨dp, ep⟩, ⟨dm, em⟩⟩ := p4 p hpm2
        have t4 := k4.tabs t3
        have k14 : Kw (R :: ps.map (·.a)) H1 H4 := (k2.trans k3.any).trans k4.w.any
        have r4 := (r2.kp k3 n0).kp k4 n0
        have tail : ∀ (bk : L2.St → Hp → Prop) (stop : Int) (word : Str) (is : V) (E' : List Int → Option Int) (H5 : Hp), step js sp u st = ⟨stop, st.rows ++ [⟨st.hour, stop, p.j.m.name, p.j.place, word⟩], E'⟩ → Kw (R :: ps.map (·.a)) H1 H5 → LamX.Tabs (TT K) H5 → LD H5 R (st.rows.map SRow.d) → PsAt K H5 ps E' →
            tSeq (tDrop (tBM K "list" rAppend (tVar 3) (tCons (tTup (tCons (tVar 4) (tCons (tVar 6) (tCons (tFld K (tFld K (tVar 5) "kind") "name") (tCons (tFld K (tVar 5) "place") (tCons (tVar 8) tNil)))))) tNil))) (tAsg (tVar 6) (gName 4))
              { nx := Wp (step js sp u st), ct := Wp (step js sp u st), rt := Q, bk := bk } [some (.ref l), some (.ref sl), some (.int u), some (.ref R), some (.int st.hour), some (.ref p.a), some (.int stop), some is, some (.str word), none] H5 := by
          intro bk stop word is E' H5 hstep k5 t5 r5 p5
          obtain ⟨⟨dp5, ep5⟩, ⟨dm5, em5⟩⟩ := p5 p hpm2
          obtain ⟨us, eR, hus⟩ := r5.ex
          have hul := hus.len
          rw [List.length_map] at hul
          have hrl := hR2.rows
          refine ⟨_, rfl, tyL eR, _, rfl, _, rfl, _, rfl, p.a, _, dp5, _, _, rfl, ep5, cP, T.na_Parcel_kind, rfl, p.m, _, dm5, _, _, rfl, em5, cM, T.na_Message_name, rfl, _, rfl, p.a, _, dp5, _, _, rfl, ep5, cP, T.na_Parcel_place, rfl, _, rfl, szb rfl, fun w hw => ?_⟩
          generalize e : upd _ w _ = H6
          obtain ⟨e6, k6⟩ := newF e hw
          have eR6 := k6.lst eR n0
          refine ⟨R, us, _, rfl, rfl, eR6, by rw [hul]; exact small1000 (by omega), ?_⟩
          generalize e : upd _ R _ = H7
          obtain ⟨e7, k7⟩ := putL e eR6
          refine ⟨_, rfl, ?_⟩
          rw [hstep] at hnext ⊢
          refine ⟨_, _, _, _, rfl, hnext, (k5.trans k6.w.any).trans (k7.w.wide fun x hx => by rw [List.mem_singleton.mp hx]; exact List.mem_cons_self ..), k7.tabs (k6.tabs t5), ⟨_, e7, ?_⟩, (p5.kp0 k6).kp k7 fun q hq => ⟨n1 (paR q hq), n1 ?_⟩⟩
          · rw [List.map_append]
            exact (hus.kp k6 |>.kp k7).app (.one (.tup (k7.tup _ _ e6) (.cons (.int _) (.cons (.int _) (.cons (.str _) (.cons (.int _) (.cons (.str _) .nil)))))))
          · obtain ⟨_, ⟨d, e⟩⟩ := (p5.kp0 k6) q hq
            exact ne_of e eR6 (fun z => nomatch z)
        let Cut : V → L2.St → Hp → Prop := fun is σ' H' => ∃ (stop : Int) (word : Str) (E' : List Int → Option Int), σ' = [some (.ref l), some (.ref sl), some (.int u), some (.ref R), some (.int st.hour), some (.ref p.a), some (.int stop), some is, some (.str word), none] ∧
          step js sp u st = ⟨stop, st.rows ++ [⟨st.hour, stop, p.j.m.name, p.j.place, word⟩], E'⟩ ∧ Kw (R :: ps.map (·.a)) H1 H' ∧ LamX.Tabs (TT K) H' ∧ LD H' R (st.rows.map SRow.d) ∧ PsAt K H' ps E'
        cases hb : badOf sp st.hour (st.hour + p.j.m.most) with
        | none =>
          have hs : step js sp u st = (if st.hour + p.j.m.most > u then ⟨u, st.rows ++ [⟨st.hour, u, p.j.m.name, p.j.place, "going"⟩], st.E⟩
              else ⟨st.hour + p.j.m.most, st.rows ++ [⟨st.hour, st.hour + p.j.m.most, p.j.m.name, p.j.place, "sent"⟩], putE st.E p.j.key (st.hour + p.j.m.most)⟩) := by
            unfold step
            rw [if_neg (by omega), hpn]
            dsimp only
            rw [hb]
          rw [hb] at eq
          refine ⟨q, _, rfl, SqT.of eq, rfl, _, _, rfl, _, _, rfl, rfl, ?_⟩
          refine ⟨_, rfl, true, rfl, ?_⟩
          refine ⟨Cut (.bl true), ?_, ?_⟩
          · refine ⟨_, rfl, _, rfl, _, _, rfl, rfl, _, rfl, ?_⟩
            refine ite2 (fun c => ?_) (fun c => ?_)
            · have c := of_decide_eq_true c
              rw [if_pos c] at hs
              exact ⟨_, rfl, _, _, rfl, u, "going", st.E, rfl, hs, k14, t4, r4, p4⟩
            · have c : ¬ st.hour + p.j.m.most > u := fun z => c (decide_eq_true z)
              rw [if_neg c] at hs
              refine ⟨_, rfl, true, rfl, _, rfl, _, rfl, p.a, _, dp, _, rfl, ep, cP, T.na_Parcel_ended, fl1000 rfl, ?_⟩
              generalize e : upd _ p.a _ = H5
              obtain ⟨e5, k5⟩ := putI e ep
              refine ⟨_, "sent", _, rfl, hs, k14.trans (k5.w.wide fun x hx => ?_), k5.tabs t4, r4.kp k5 (n1 (paR p hpm2).symm), fun q hq => ?_⟩
              · rw [List.mem_singleton.mp hx]
                exact List.mem_cons_of_mem _ (List.mem_map.mpr ⟨p, hpm2, rfl⟩)
              · have hqm : q.m ≠ p.a := by
                  obtain ⟨_, ⟨d, eq⟩⟩ := p4 q hq
                  exact ne_of eq ep msg_par
                by_cases hqp : q = p
                · subst hqp
                  refine ⟨⟨dp, ?_⟩, (p4 q hq).2.kp k5 (n1 hqm)⟩
                  rw [e5]
                  unfold putE
                  rw [if_pos rfl]
                  rfl
                · obtain ⟨n1', n2'⟩ := kne p hpm2 q hq hqp
                  refine ⟨?_, (p4 q hq).2.kp k5 (n1 hqm)⟩
                  unfold putE
                  rw [if_neg n2']
                  exact (p4 q hq).1.kp k5 (n1 n1')
          · rintro σ' H5 ⟨stop, word, E', rfl, g1, g2, g3, g4, g5⟩
            exact tail _ stop word _ E' H5 g1 g2 g3 g4 g5
        | some bd =>
          have hs : step js sp u st = (if bd + 1 > u then ⟨u, st.rows ++ [⟨st.hour, u, p.j.m.name, p.j.place, "going"⟩], st.E⟩
              else ⟨bd + 1, st.rows ++ [⟨st.hour, bd + 1, p.j.m.name, p.j.place, "spoiled"⟩], st.E⟩) := by
            unfold step
            rw [if_neg (by omega), hpn]
            dsimp only
            rw [hb]
          rw [hb] at eq
          refine ⟨q, _, rfl, SqT.of eq, rfl, _, _, rfl, _, _, rfl, rfl, ?_⟩
          refine ⟨_, rfl, false, rfl, ?_⟩
          refine ⟨Cut (.bl false), ?_, ?_⟩
          · refine ⟨_, rfl, _, rfl, _, _, rfl, rfl, _, rfl, ?_⟩
            refine ite2 (fun c => ?_) (fun c => ?_)
            · have c := of_decide_eq_true c
              rw [if_pos c] at hs
              exact ⟨_, rfl, _, _, rfl, u, "going", st.E, rfl, hs, k14, t4, r4, p4⟩
            · have c : ¬ bd + 1 > u := fun z => c (decide_eq_true z)
              rw [if_neg c] at hs
              exact ⟨_, rfl, false, rfl, _, "spoiled", _, rfl, hs, k14, t4, r4, p4⟩
          · rintro σ' H5 ⟨stop, word, E', rfl, g1, g2, g3, g4, g5⟩
            exact tail _ stop word _ E' H5 g1 g2 g3 g4 g5
    · have cu : u ≤ st.hour := by
        rcases Int.lt_or_le st.hour u with h | h
        · exact absurd (decide_eq_true h) cu
        · exact h
      have hf := hR2.fin cu (by omega)
      rw [hjs] at k
      have kk := k R H2
      rw [← hf] at kk
      exact ⟨_, rfl, kk hR (Kg_mutL k1.any.w k2 hR) t2 r2 p2⟩
end
end K57
set_option Elab.async false
set_option linter.all false
set_option maxRecDepth 100000
set_option maxHeartbeats 4000000
namespace K57
open PySem L2 Pw
theorem vals_rev : ∀ {vs : List V} {us : List Value}, Vals vs us → Vals vs.reverse us.reverse
  | _, _, .nil => .nil
  | _, _, .cons r t => by
    rw [List.reverse_cons, List.reverse_cons]
    exact (vals_rev t).append (.cons r .nil)
structure LineV where
  ln : Addr
  bus : Addr
  g : Bool
  asked : Addr
  bad : Addr
  hour : Int
  mv : Addr
  rw : Addr
def LineV.F (x : LineV) : List (Str × V) := [("wire", .ref x.bus), ("gated", .bl x.g), ("asked_for", .ref x.asked), ("bad_ticks", .ref x.bad), ("hour", .int x.hour), ("moving", .ref x.mv), ("rows", .ref x.rw)]
def InsL (K : PySem.W.Frag) (H : Hp) (x : LineV) : Prop := ∃ dx, H x.ln = some (.ins (He.ga K "Line") dx x.F)
structure LineAt (K : PySem.W.Frag) (H : Hp) (x : LineV) (ws : List (Int × Str)) (sp : List Int) : Prop where
  i : InsL K H x
  a : LD H x.asked (ws.map wishD)
  b : H x.bad = some (.lst (sp.map V.int))
  ne : x.asked ≠ x.bad
theorem InsL.kp {K : PySem.W.Frag} {g : Bool} {S : List Addr} {H H' : Hp} {x : LineV} (h : InsL K H x) (k : Kg g S H H') (n : x.ln ∉ S) : InsL K H' x := by
  obtain ⟨dx, e⟩ := h
  exact ⟨dx, k.ins e n⟩
theorem LineAt.kp {K : PySem.W.Frag} {g : Bool} {S : List Addr} {H H' : Hp} {x : LineV} {ws : List (Int × Str)} {sp : List Int} (h : LineAt K H x ws sp) (k : Kg g S H H') (n : ∀ y ∈ [x.ln, x.asked, x.bad], y ∉ S) : LineAt K H' x ws sp :=
  ⟨h.i.kp k (n _ (by simp)), h.a.kp k (n _ (by simp)), k.lst h.b (n _ (by simp)), h.ne⟩
theorem LineAt.known {K : PySem.W.Frag} {H : Hp} {x : LineV} {ws : List (Int × Str)} {sp : List Int} (h : LineAt K H x ws sp) : ∀ y ∈ [x.ln, x.asked, x.bad], H y ≠ none := by
  obtain ⟨⟨dx, e1⟩, ⟨vs, e2, _⟩, e3, _⟩ := h
  intro y hy
  simp only [List.mem_cons, List.not_mem_nil, or_false] at hy
  rcases hy with rfl | rfl | rfl
  · rw [e1]; simp
  · rw [e2]; simp
  · rw [e3]; simp
theorem LineAt.lna {K : PySem.W.Frag} {H : Hp} {x : LineV} {ws : List (Int × Str)} {sp : List Int} (h : LineAt K H x ws sp) : x.ln ≠ x.asked := by
  obtain ⟨⟨dx, e1⟩, ⟨vs, e2, _⟩, e3, _⟩ := h
  exact ne_of e1 e2 (fun z => nomatch z)
theorem LineAt.lnb {K : PySem.W.Frag} {H : Hp} {x : LineV} {ws : List (Int × Str)} {sp : List Int} (h : LineAt K H x ws sp) : x.ln ≠ x.bad := by
  obtain ⟨⟨dx, e1⟩, ⟨vs, e2, _⟩, e3, _⟩ := h
  exact ne_of e1 e3 (fun z => nomatch z)
def spLine (K : PySem.W.Frag) : Sp := fun vs H Q _ => ∃ (a dx bus : Addr) (g : Bool), vs = [.ref a, .ref bus, .bl g] ∧ H a = some (.ins (He.ga K "Line") dx []) ∧
  ∀ (H' : Hp) (x : LineV), x.ln = a → x.bus = bus → x.g = g → x.hour = 0 → H x.asked = none → H x.bad = none → H x.mv = none → H x.rw = none → Kp [a] H H' → LineAt K H' x [] [] → Q .non H'
def spNow (K : PySem.W.Frag) : Sp := fun vs H Q _ => ∃ (x : LineV), vs = [.ref x.ln] ∧ InsL K H x ∧ Q (.int x.hour) H
def spNeed (K : PySem.W.Frag) : Sp := fun vs H Q _ => ∃ (x : LineV) (h : Int), vs = [.ref x.ln, .int h] ∧ InsL K H x ∧ x.hour ≤ h ∧ Q .non H
def spWish (K : PySem.W.Frag) : Sp := fun vs H Q _ => ∃ (x : LineV) (h : Int) (bn : Addr) (ms : List (Addr × RowD)) (m : Addr × RowD) (ws : List (Int × Str)) (sp : List Int), vs = [.ref x.ln, .int h, .str m.2.name] ∧ LineAt K H x ws sp ∧ BusAt K H x.bus bn ms ∧ m ∈ ms ∧ x.hour ≤ h ∧ ws.length ≤ 100 ∧
  ∀ H', Kp [x.asked] H H' → LineAt K H' x (ws ++ [(h, m.2.name)]) sp → Q .non H'
def spSpoil (K : PySem.W.Frag) : Sp := fun vs H Q _ => ∃ (x : LineV) (h : Int) (ws : List (Int × Str)) (sp : List Int), vs = [.ref x.ln, .int h] ∧ LineAt K H x ws sp ∧ x.hour ≤ h ∧ sp.length ≤ 100 ∧
  ∀ H', Kp [x.bad] H H' → LineAt K H' x ws (sp ++ [h]) → Q .non H'
def jobD (j : Job) (e : Option Int) : PyData := .tuple [.str j.m.name, .int j.place, .int j.arr, .int j.freed, .int j.m.most, .int (match e with | none => 0 | some _ => j.m.most), match e with | none => .none | some i => .int i]
def jobsD (js : List Job) (E : List Int → Option Int) : List PyData := js.map fun j => jobD j (E j.key)
def spLJobs (K : PySem.W.Frag) : Sp := fun vs H Q _ => ∃ (x : LineV) (ps : List Par) (E : List Int → Option Int), vs = [.ref x.ln] ∧ InsL K H x ∧ H x.mv = some (.lst (ps.map fun p => .ref p.a)) ∧ PsAt K H ps E ∧ ps.length ≤ 400 ∧
  ∀ (l : Addr) (H' : Hp), H l = none → Kp [] H H' → LD H' l (jobsD (ps.map (·.j)) E) → Q (.ref l) H'
def spSend (K : PySem.W.Frag) : Sp := fun vs H Q _ => ∃ (x : LineV) (ds : List PyData), vs = [.ref x.ln] ∧ InsL K H x ∧ LD H x.rw ds ∧ ∀ (l : Addr) (H' : Hp), H l = none → Kp [] H H' → LD H' l ds → Q (.ref l) H'
section
variable {P : Program} {w : World} {K : PySem.W.Frag} {mg : Str → Option Value} {base : Heap}
-- slots: 0 self, 1 bus, 2 gate
theorem ok_Line___init__ (T : Txt K mg) : ∃ fd, FnOk P w K mg base CX0 1 (He.ma K (He.ga K "Line") "__init__") fd ["self", "bus", "gate"] (spLine K) ∧ ∃ g gV, KBn K fd ["self", "bus", "gate"] 2 ["gate"] g gV ∧ ∀ a b c, gV [a, b] [c] = [a, b, c] := by
  obtain ⟨fd, F⟩ := T.f_Line___init__
  refine ⟨fd, F.ok sc_Line___init__ (fun vs H Q E h => ?_) (fun cdv A outer s H vs Q E hr h => ?_), ?_⟩
  rotate_left 2
  · obtain ⟨mv, b⟩ := F.kbinds0 (ps := ["self", "bus", "gate"]) 2 ["gate"] [] (fun vs _ zs => vs ++ zs) (by decide) (fun _ h => nomatch h) (fun r1 _ r3 => r1.append r3) (fun D doc pm an cdv ct us mv ws h1 h2 h3 => match us, mv, ws, h1, h2, h3 with | [_, _], [], [_], _, _, _ => rfl)
    exact ⟨_, _, b, fun _ _ _ => rfl⟩
  · obtain ⟨a, dx, bus, g, rfl, _⟩ := h
    rfl
  · obtain ⟨a, dx, bus, g, rfl, ha, k⟩ := h
    refine ⟨_, PSs.nox (pss_cons (ps_fld (pv 0) (pv 1) rfl)
      (pss_cons (ps_fld (pv 0) (pv 2) rfl)
      (pss_cons (ps_fld (pv 0) (pe_lst pa_nil) rfl)
      (pss_cons (ps_fld (pv 0) (pe_lst pa_nil) rfl)
      (pss_cons (ps_fld (pv 0) pe_int rfl)
      (pss_cons (ps_fld (pv 0) (pe_lst pa_nil) rfl)
      (pss_one (ps_fld (pv 0) (pe_lst pa_nil) rfl)))))))), ?_⟩
    have cL := T.cl_Line
    refine ⟨_, rfl, _, rfl, a, _, dx, _, rfl, ha, cL, T.na_Line_wire, fl1000 rfl, ?_⟩
    generalize e : upd _ a _ = H1
    obtain ⟨e1, k1⟩ := putI e ha
    refine ⟨_, rfl, _, rfl, a, _, dx, _, rfl, e1, cL, T.na_Line_gated, fl1000 rfl, ?_⟩
    generalize e : upd _ a _ = H2
    obtain ⟨e2, k2⟩ := putI e e1
    refine ⟨szb rfl, fun p1 hp1 => ?_⟩
    generalize e : upd _ p1 _ = H3
    obtain ⟨q3, k3⟩ := newF e hp1
    have e3 := k3.ins e2 n0
    refine ⟨_, rfl, a, _, dx, _, rfl, e3, cL, T.na_Line_asked_for, fl1000 rfl, ?_⟩
    generalize e : upd _ a _ = H4
    obtain ⟨e4, k4⟩ := putI e e3
    refine ⟨szb rfl, fun p2 hp2 => ?_⟩
    generalize e : upd _ p2 _ = H5
    obtain ⟨q5, k5⟩ := newF e hp2
    have e5 := k5.ins e4 n0
    refine ⟨_, rfl, a, _, dx, _, rfl, e5, cL, T.na_Line_bad_ticks, fl1000 rfl, ?_⟩
    generalize e : upd _ a _ = H6
    obtain ⟨e6, k6⟩ := putI e e5
    refine ⟨_, rfl, a, _, dx, _, rfl, e6, cL, T.na_Line_hour, fl1000 rfl, ?_⟩
    generalize e : upd _ a _ = H7
    obtain ⟨e7, k7⟩ := putI e e6
    refine ⟨szb rfl, fun p3 hp3 => ?_⟩
    generalize e : upd _ p3 _ = H8
    obtain ⟨q8, k8⟩ := newF e hp3
    have e8 := k8.ins e7 n0
    refine ⟨_, rfl, a, _, dx, _, rfl, e8, cL, T.na_Line_moving, fl1000 rfl, ?_⟩
    generalize e : upd _ a _ = H9
    obtain ⟨e9, k9⟩ := putI e e8
    refine ⟨szb rfl, fun p4 hp4 => ?_⟩
    generalize e : upd _ p4 _ = H10
    obtain ⟨q10, k10⟩ := newF e hp4
    have e10 := k10.ins e9 n0
    refine ⟨_, rfl, a, _, dx, _, rfl, e10, cL, T.na_Line_rows, fl1000 rfl, ?_⟩
    generalize e : upd _ a _ = H11
    obtain ⟨e11, k11⟩ := putI e e10
    have a1 : p1 ≠ a := (ne_of_none e2 hp1).symm
    have a2 : p2 ≠ a := (ne_of_none e4 hp2).symm
    have a3 : p3 ≠ a := (ne_of_none e7 hp3).symm
    have a4 : p4 ≠ a := (ne_of_none e9 hp4).symm
    have kA : Kp [a] H H2 := k1.trans k2
    have kB : Kp [a] H H4 := (kA.trans k3.any).trans k4
    have kC : Kp [a] H H7 := ((kB.trans k5.any).trans k6).trans k7
    have kD : Kp [a] H H9 := (kC.trans k8.any).trans k9
    have kE : Kp [a] H H11 := (kD.trans k10.any).trans k11
    have q4 := k4.lst q3 (n1 a1)
    have q7 := k7.lst (k6.lst (k5.lst q4 n0) (n1 a1)) (n1 a1)
    have q11 := k11.lst (k10.lst (k9.lst (k8.lst q7 n0) (n1 a1)) n0) (n1 a1)
    have r11 := k11.lst (k10.lst (k9.lst (k8.lst (k7.lst (k6.lst q5 (n1 a2)) (n1 a2)) n0) (n1 a2)) n0) (n1 a2)
    exact k H11 ⟨a, bus, g, p1, p2, 0, p3, p4⟩ rfl rfl rfl rfl (kA.free (n1 a1) hp1) (kB.free (n1 a2) hp2) (kC.free (n1 a3) hp3) (kD.free (n1 a4) hp4) kE ⟨⟨dx, e11⟩, ⟨_, q11, .nil⟩, r11, ne_of_none q4 hp2⟩
-- slots: 0 self
theorem ok_Line_now (T : Txt K mg) : ∃ fd, FnOk P w K mg base CX0 1 (He.ma K (He.ga K "Line") "now") fd ["self"] (spNow K) ∧ Binds K fd ["self"] [] := by
  obtain ⟨fd, F⟩ := T.f_Line_now
  refine ⟨fd, F.ok sc_Line_now (fun vs H Q E h => ?_) (fun cdv A outer s H vs Q E hr h => ?_), F.bindsN fun _ _ _ _ _ _ us hl => match us, hl with | [_], _ => rfl⟩
  · obtain ⟨x, rfl, _⟩ := h
    rfl
  · obtain ⟨x, rfl, ha, k⟩ := h
    refine ⟨_, PSs.nox (pss_one (ps_ret (pe_fld (pv 0) rfl))), ?_⟩
    obtain ⟨dx, ha⟩ := ha
    exact ⟨_, rfl, _, _, dx, _, _, rfl, ha, T.cl_Line, T.na_Line_hour, rfl, k⟩
-- slots: 0 self, 1 hour
theorem ok_Line_need_hour (T : Txt K mg) : ∃ fd, FnOk P w K mg base CX0 1 (He.ma K (He.ga K "Line") "need_hour") fd ["self", "hour"] (spNeed K) ∧ Binds K fd ["self", "hour"] [] := by
  obtain ⟨fd, F⟩ := T.f_Line_need_hour
  refine ⟨fd, F.ok sc_Line_need_hour (fun vs H Q E h => ?_) (fun cdv A outer s H vs Q E hr h => ?_), F.bindsN fun _ _ _ _ _ _ us hl => match us, hl with | [_, _], _ => rfl⟩
  · obtain ⟨x, h, rfl, _⟩ := h
    rfl
  · obtain ⟨x, h, rfl, ⟨dx, ha⟩, hh, k⟩ := h
    refine ⟨_, PSs.nox (pss_one (ps_if (pt_cmpR (op_lt) (pv 1) (pe_fld (pv 0) rfl) (nomark _))
        (pss_one ps_never)
        pss_nil)), ?_⟩
    exact ⟨_, rfl, _, rfl, _, _, dx, _, _, rfl, ha, T.cl_Line, T.na_Line_hour, rfl, _, _, rfl, rfl, false, congrArg V.bl (decide_eq_false (by omega)), k⟩
-- slots: 0 self, 1 hour, 2 message
theorem ok_Line_wish (T : Txt K mg) : ∃ fd, FnOk P w K mg base CX0 2 (He.ma K (He.ga K "Line") "wish") fd ["self", "hour", "message"] (spWish K) ∧ ∃ g gV, KBn K fd ["self", "hour", "message"] 1 ["message", "hour"] g gV ∧ ∀ a b c, gV [a] [b, c] = [a, c, b] := by
  obtain ⟨fd, F⟩ := T.f_Line_wish
  obtain ⟨_, G_Bus_message, b_Bus_message⟩ := ok_Bus_message (P := P) (w := w) (base := base) T
  obtain ⟨_, G_Line_need_hour, b_Line_need_hour⟩ := ok_Line_need_hour (P := P) (w := w) (base := base) T
  refine ⟨fd, F.ok sc_Line_wish (fun vs H Q E h => ?_) (fun cdv A outer s H vs Q E hr h => ?_), ?_⟩
  rotate_left 2
  · exact ⟨_, _, kbindsN (ps := ["self", "hour", "message"]) F 1 ["message", "hour"] (fun vs zs => vs ++ zs.reverse) (fun r1 r2 => r1.append (vals_rev r2)) (fun kV doc pm an cdv ct us ws h1 h2 => match us, ws, h1, h2 with | [_], [_, _], _, _ => rfl), fun _ _ _ => rfl⟩
  · obtain ⟨x, h, bn, ms, m, ws, sp, rfl, _⟩ := h
    rfl
  · obtain ⟨x, h, bn, ms, m, ws, sp, rfl, hL, hb, hm, hh, hwl, k⟩ := h
    refine ⟨_, PSs.nox (pss_cons (ps_expr (pe_meth (pv 0) T.cl_Line T.m_Line_need_hour G_Line_need_hour (hr.mono (by decide)) b_Line_need_hour .nil pass0 (pa_cons (pv 1) pa_nil)))
      (pss_one (ps_expr (pe_bm PySem.F.plainAttrs_list PySem.F.slot_list_append PySem.F.type_list_append mt_append (pe_fld (pv 0) rfl) (pa_cons (pe_tup (pa_cons (pv 1) (pa_cons (pe_fld (pe_meth (pe_fld (pv 0) rfl) T.cl_Bus T.m_Bus_message G_Bus_message (hr.mono (by decide)) b_Bus_message .nil pass0 (pa_cons (pv 2) pa_nil)) rfl) pa_nil))) pa_nil))))), ?_⟩
    obtain ⟨dx, ha⟩ := id hL.i
    obtain ⟨dxb, br, kvs, b1, b2, b3, b4, b5⟩ := id hb
    obtain ⟨dm, em⟩ := b5 m hm
    have cL := T.cl_Line
    refine ⟨_, rfl, x.ln, dx, _, rfl, ha, rfl, _, rfl, x, h, rfl, ⟨dx, ha⟩, hh, ?_⟩
    obtain ⟨us, eA, hus⟩ := id hL.a.ex
    refine ⟨_, rfl, _, _, dx, _, _, rfl, ha, cL, T.na_Line_asked_for, rfl, tyL eA, _, rfl, _, rfl, _, _, dx, _, _, rfl, ha, cL, T.na_Line_wire, rfl, x.bus, dxb, _, rfl, b1, rfl, _, rfl, x.bus, bn, ms, m, rfl, hb, hm, ?_⟩
    refine ⟨m.1, _, dm, _, _, rfl, em, T.cl_Message, T.na_Message_name, rfl, szb rfl, fun q hq => ?_⟩
    generalize e : upd _ q _ = H1
    obtain ⟨e1, k1⟩ := newF e hq
    have eA1 := k1.lst eA n0
    have hul := hus.len
    rw [List.length_map] at hul
    refine ⟨x.asked, us, _, rfl, rfl, eA1, by rw [hul]; exact small1000 (by omega), ?_⟩
    generalize e : upd _ x.asked _ = H2
    obtain ⟨e2, k2⟩ := putL e eA1
    refine k H2 (k1.any.trans k2) ⟨⟨dx, k2.ins (k1.ins ha n0) (n1 hL.lna)⟩, ⟨_, e2, ?_⟩, k2.lst (k1.lst hL.b n0) (n1 hL.ne.symm), hL.ne⟩
    rw [List.map_append]
    exact (hus.kp k1 |>.kp k2).app (.one (.tup (k2.tup _ _ e1) (.cons (.int _) (.cons (.str _) .nil))))
-- slots: 0 self, 1 tick
theorem ok_Line_spoil (T : Txt K mg) : ∃ fd, FnOk P w K mg base CX0 2 (He.ma K (He.ga K "Line") "spoil") fd ["self", "tick"] (spSpoil K) ∧ ∃ g gV, KBn K fd ["self", "tick"] 1 ["tick"] g gV ∧ ∀ a b, gV [a] [b] = [a, b] := by
  obtain ⟨fd, F⟩ := T.f_Line_spoil
  obtain ⟨_, G_Line_need_hour, b_Line_need_hour⟩ := ok_Line_need_hour (P := P) (w := w) (base := base) T
  refine ⟨fd, F.ok sc_Line_spoil (fun vs H Q E h => ?_) (fun cdv A outer s H vs Q E hr h => ?_), ?_⟩
  rotate_left 2
  · exact ⟨_, _, kbindsN (ps := ["self", "tick"]) F 1 ["tick"] (fun vs zs => vs ++ zs) (fun r1 r2 => r1.append r2) (fun kV doc pm an cdv ct us ws h1 h2 => match us, ws, h1, h2 with | [_], [_], _, _ => rfl), fun _ _ => rfl⟩
  · obtain ⟨x, h, ws, sp, rfl, _⟩ := h
    rfl
  · obtain ⟨x, h, ws, sp, rfl, hL, hh, hsl, k⟩ := h
    refine ⟨_, PSs.nox (pss_cons (ps_expr (pe_meth (pv 0) T.cl_Line T.m_Line_need_hour G_Line_need_hour (hr.mono (by decide)) b_Line_need_hour .nil pass0 (pa_cons (pv 1) pa_nil)))
      (pss_one (ps_expr (pe_bm PySem.F.plainAttrs_list PySem.F.slot_list_append PySem.F.type_list_append mt_append (pe_fld (pv 0) rfl) (pa_cons (pv 1) pa_nil))))), ?_⟩
    obtain ⟨dx, ha⟩ := id hL.i
    have cL := T.cl_Line
    refine ⟨_, rfl, x.ln, dx, _, rfl, ha, rfl, _, rfl, x, h, rfl, ⟨dx, ha⟩, hh, ?_⟩
    refine ⟨_, rfl, _, _, dx, _, _, rfl, ha, cL, T.na_Line_bad_ticks, rfl, tyL hL.b, _, rfl, ?_⟩
    refine ⟨x.bad, _, _, rfl, rfl, hL.b, by rw [List.length_map]; exact small1000 (by omega), ?_⟩
    generalize e : upd _ x.bad _ = H2
    obtain ⟨e2, k2⟩ := putL e hL.b
    refine k H2 k2 ⟨⟨dx, k2.ins ha (n1 hL.lnb)⟩, hL.a.kp k2 (n1 hL.ne), ?_, hL.ne⟩
    rw [e2, List.map_append]
    rfl
-- slots: 0 self, 1 found, 2 one, 3 most
theorem ok_Line_jobs (T : Txt K mg) : ∃ fd, FnOk P w K mg base CX0 2 (He.ma K (He.ga K "Line") "jobs") fd ["self"] (spLJobs K) ∧ Binds K fd ["self"] [] := by
  obtain ⟨fd, F⟩ := T.f_Line_jobs
  obtain ⟨_, G_Parcel_done_ticks, b_Parcel_done_ticks⟩ := ok_Parcel_done_ticks (P := P) (w := w) (base := base) T
  refine ⟨fd, F.ok sc_Line_jobs (fun vs H Q E h => ?_) (fun cdv A outer s H vs Q E hr h => ?_), F.bindsN fun _ _ _ _ _ _ us hl => match us, hl with | [_], _ => rfl⟩
  · obtain ⟨x, ps, E, rfl, _⟩ := h
    rfl
  · obtain ⟨x, ps, E, rfl, ⟨dx, ha⟩, hmv, hps, hpl, k⟩ := h
    refine ⟨_, PSs.nox (pss_cons (ps_set (i := 1) sc_Line_jobs.nd rfl (Or.inl rfl) (pe_lst pa_nil))
      (pss_cons (ps_for PassesOwn.never rfl (pi_list (pe_fld (pv 0) rfl)) (pg_name (i := 2) sc_Line_jobs.nd rfl (Or.inl rfl))
          (pss_cons (ps_set (i := 3) sc_Line_jobs.nd rfl (Or.inl rfl) (pe_fld (pe_fld (pv 2) rfl) rfl))
          (pss_one (ps_expr (pe_bm PySem.F.plainAttrs_list PySem.F.slot_list_append PySem.F.type_list_append mt_append (pv 1) (pa_cons (pe_tup (pa_cons (pe_fld (pe_fld (pv 2) rfl) rfl) (pa_cons (pe_fld (pv 2) rfl) (pa_cons (pe_fld (pv 2) rfl) (pa_cons (pe_fld (pv 2) rfl) (pa_cons (pv 3) (pa_cons (pe_meth0 (pv 2) T.cl_Parcel T.m_Parcel_done_ticks G_Parcel_done_ticks (hr.mono (by decide)) b_Parcel_done_ticks .nil pass0) (pa_cons (pe_fld (pv 2) rfl) pa_nil)))))))) pa_nil))))))
      (pss_one (ps_ret (pv 1))))), ?_⟩
    have cL := T.cl_Line
    have cP := T.cl_Parcel
    have cM := T.cl_Message
    refine ⟨szb rfl, fun S hS => ?_⟩
    generalize e : upd _ S _ = H1
    obtain ⟨e1, k1⟩ := newF e hS
    have hmS : x.mv ≠ S := ne_of_none hmv hS
    have paS : ∀ p ∈ ps, p.a ≠ S ∧ p.m ≠ S := fun p hp => by
      obtain ⟨⟨d, e⟩, ⟨d2, e2⟩⟩ := hps p hp
      exact ⟨ne_of_none e hS, ne_of_none e2 hS⟩
    refine ⟨_, rfl, _, _, dx, _, _, rfl, k1.ins ha n0, cL, T.na_Line_moving, rfl, x.mv, rfl, ⟨_, SqL.of (k1.lst hmv n0)⟩, ?_⟩
    refine for_it (walk_list (K := K) (xs := ps.map fun p => V.ref p.a)) (fun i σ' H' => (∃ a b, σ' = [some (.ref x.ln), some (.ref S), a, b]) ∧ Kp [S] H1 H' ∧ LD H' S (jobsD ((ps.take i).map (·.j)) E)) ?_ (fun _ _ _ _ h => SqL.of (h.2.1.lst (k1.lst hmv n0) (n1 hmS))) ?_ ?_
    · exact ⟨⟨_, _, rfl⟩, Kp.refl _ _, ⟨_, e1, .nil⟩⟩
    · rintro i y σ' H2 H3 hi ⟨⟨a, b, rfl⟩, k2, hS2⟩ ⟨rfl, hy⟩
      rw [List.length_map] at hi
      rw [List.getElem?_map, List.getElem?_eq_getElem hi] at hy
      obtain rfl : V.ref ps[i].a = y := by simpa using hy
      have hmem := List.getElem_mem hi
      have htk : ps.take (i + 1) = ps.take i ++ [ps[i]] := List.take_succ_eq_append_getElem hi
      obtain ⟨g1, g2⟩ := hps _ hmem
      obtain ⟨s1, s2⟩ := paS _ hmem
      obtain ⟨dp, ep⟩ := (g1.kp k1 n0).kp k2 (n1 s1)
      obtain ⟨dm, em⟩ := (g2.kp k1 n0).kp k2 (n1 s2)
      generalize ps[i] = p at hmem htk ep em
      obtain ⟨us, eS, hus⟩ := hS2.ex
      have hul := hus.len
      refine ⟨_, rfl, _, _, dp, _, _, rfl, ep, cP, T.na_Parcel_kind, rfl, _, _, dm, _, _, rfl, em, cM, T.na_Message_most, rfl, ?_⟩
      refine ⟨_, rfl, tyL eS, _, rfl, _, _, dp, _, _, rfl, ep, cP, T.na_Parcel_kind, rfl, _, _, dm, _, _, rfl, em, cM, T.na_Message_name, rfl, _, rfl, _, _, dp, _, _, rfl, ep, cP, T.na_Parcel_place, rfl, _, rfl, _, _, dp, _, _, rfl, ep, cP, T.na_Parcel_arrived, rfl,
        _, rfl, _, _, dp, _, _, rfl, ep, cP, T.na_Parcel_freed, rfl, _, rfl, _, rfl, p.a, dp, _, rfl, ep, rfl, p.a, p.m, p.j, E p.j.key, rfl, ⟨dp, ep⟩, ⟨dm, em⟩, _, rfl, _, _, dp, _, _, rfl, ep, cP, T.na_Parcel_ended, rfl, szb rfl, fun q hq => ?_⟩
      generalize e : upd _ q _ = H4
      obtain ⟨e4, k4⟩ := newF e hq
      have eS4 := k4.lst eS n0
      refine ⟨S, us, _, rfl, rfl, eS4, ?_, ?_⟩
      · rw [hul]
        unfold jobsD
        rw [List.length_map, List.length_map, List.length_take]
        exact small1000 (by omega)
      · generalize e : upd _ S _ = H5
        obtain ⟨e5, k5⟩ := putL e eS4
        refine ⟨⟨_, _, rfl⟩, (k2.trans k4.any).trans k5, ⟨_, e5, ?_⟩⟩
        unfold jobsD at hus ⊢
        rw [htk, List.map_append, List.map_append]
        refine (hus.kp k4 |>.kp k5).app (.one (.tup (k5.tup _ _ e4) (.cons (.str _) (.cons (.int _) (.cons (.int _) (.cons (.int _) (.cons (.int _) (.cons (.int _) (.cons ?_ .nil)))))))))
        cases E p.j.key with
        | none => exact .non
        | some i => exact .int i
    · rintro σ' H2 ⟨⟨a, b, rfl⟩, k2, hS2⟩
      rw [List.length_map, List.take_length] at hS2
      exact ⟨_, rfl, k S H2 hS (k1.mut k2 hS) hS2⟩
-- slots: 0 self
theorem ok_Line_sendings (T : Txt K mg) : ∃ fd, FnOk P w K mg base CX0 1 (He.ma K (He.ga K "Line") "sendings") fd ["self"] (spSend K) ∧ Binds K fd ["self"] [] := by
  obtain ⟨fd, F⟩ := T.f_Line_sendings
  refine ⟨fd, F.ok sc_Line_sendings (fun vs H Q E h => ?_) (fun cdv A outer s H vs Q E hr h => ?_), F.bindsN fun _ _ _ _ _ _ us hl => match us, hl with | [_], _ => rfl⟩
  · obtain ⟨x, ds, rfl, _⟩ := h
    rfl
  · obtain ⟨x, ds, rfl, ⟨dx, ha⟩, hrw, k⟩ := h
    refine ⟨_, PSs.nox (pss_one (ps_ret (pe_callTy call_list_of (by rfl) T.b_list (by decide +kernel) (pa_cons (pe_fld (pv 0) rfl) pa_nil)))), ?_⟩
    obtain ⟨us, eR, hus⟩ := hrw.ex
    refine ⟨_, rfl, _, _, dx, _, _, rfl, ha, T.cl_Line, T.na_Line_rows, rfl, x.rw, us, rfl, .inl (SqL.of eR), fun l hl => ?_⟩
    generalize e : upd _ l _ = H1
    obtain ⟨e1, k1⟩ := newF e hl
    exact k l H1 hl k1 ⟨_, e1, hus.kp k1⟩
end
end K57
set_option Elab.async false
set_option linter.all false
set_option maxRecDepth 100000
set_option maxHeartbeats 4000000
namespace K57
open PySem L2 Pw
theorem exists_sorted (w : List (Int × Str)) : ∃ s, SortedOf s w := by
  refine ⟨w.mergeSort fun a b => !skLt (wKey b) (wKey a), List.mergeSort_perm .., ?_⟩
  have z := List.pairwise_mergeSort (le := fun a b : Int × Str => !skLt (wKey b) (wKey a)) (fun a b c h1 h2 => ?_) (fun a b => ?_) w
  · exact z.imp fun {a b} h => by simpa [wLe] using h
  · simp only [Bool.not_eq_true'] at *
    cases q : skLt (wKey c) (wKey a) with
    | false => rfl
    | true =>
      rcases (PyProof.Rows.listOrd PyProof.Rows.itemOrd).negTrans (wKey c) (wKey b) (wKey a) q with h | h
      · have h : skLt (wKey c) (wKey b) = true := h
        rw [h2] at h
        cases h
      · have h : skLt (wKey b) (wKey a) = true := h
        rw [h1] at h
        cases h
  · cases q : skLt (wKey b) (wKey a) with
    | false => rfl
    | true =>
      cases q2 : skLt (wKey a) (wKey b) with
      | false => rfl
      | true =>
        have z := (PyProof.Rows.listOrd PyProof.Rows.itemOrd).trans (wKey b) (wKey a) (wKey b) q q2
        rw [(PyProof.Rows.listOrd PyProof.Rows.itemOrd).irrefl] at z
        cases z
theorem Kg_tblX {g : Bool} {S T : List Addr} {H H1 H2 : Hp} (a : Kg g S H H1) (b : Kg g T H1 H2) : ∀ c ps, H c = some (.tbl ps) → ∃ more, H2 c = some (.tbl (ps ++ more)) ∧ (g = false → more = #[]) := fun c ps h => by
  obtain ⟨m1, e1, z1⟩ := a.tbl c ps h
  obtain ⟨m2, e2, z2⟩ := b.tbl c _ e1
  exact ⟨m1 ++ m2, by rw [e2, Array.append_assoc], fun q => by rw [z1 q, z2 q]; rfl⟩
theorem Kg_fresh {g : Bool} {S T : List Addr} {H H1 H2 : Hp} (a : Kg g S H H1) (b : Kg g T H1 H2) (h : ∀ p ∈ T, H p = none) : Kg g S H H2 :=
  ⟨fun c o e t n => b.at_ c o (a.at_ c o e t n) t fun m => (by rw [h c m] at e; cases e), fun c xs e => b.tup c xs (a.tup c xs e), Kg_tblX a b, fun c o h => b.ext c o (a.ext c o h)⟩
/-- what a line has moved -/
structure RanAt (K : PySem.W.Frag) (H : Hp) (x : LineV) (ps : List Par) (st : St) : Prop where
  m : H x.mv = some (.lst (ps.map fun p => .ref p.a))
  p : PsAt K H ps st.E
  r : LD H x.rw (st.rows.map SRow.d)
def LineV.ran (x : LineV) (h : Int) (mv rw : Addr) : LineV := { x with hour := h, mv := mv, rw := rw }
def spRun (K : PySem.W.Frag) : Sp := fun vs H Q _ => ∃ (x : LineV) (h : Int) (ws : List (Int × Str)) (sp : List Int) (bn : Addr) (ms : List (Addr × RowD)), vs = [.ref x.ln, .int h] ∧ LineAt K H x ws sp ∧ BusAt K H x.bus bn ms ∧ RowsOk (ms.map (·.2)) ∧ ms.length ≤ 15 ∧
  x.hour ≤ h ∧ ws.length ≤ 26 ∧ sp.length ≤ 60 ∧ LamX.Tabs (TT K) H ∧
  ∀ (H' : Hp) (mv rw : Addr) (ps : List Par), H mv = none → H rw = none → (∀ p ∈ ps, H p.a = none) → Kw [x.ln] H H' → LamX.Tabs (TT K) H' → LineAt K H' (x.ran h mv rw) ws sp → ps.length ≤ 400 →
    (∀ s, SortedOf s (ws.filter fun w => decide (w.1 < h)) → ps.map (·.j) = parcelsIn (ms.map (·.2)) s x.g) → RanAt K H' (x.ran h mv rw) ps (fin (ps.map (·.j)) sp h) → Q .non H'
section
variable {P : Program} {w : World} {K : PySem.W.Frag} {mg : Str → Option Value} {base : Heap}
-- slots: 0 self, 1 hour(cell), 2 told, 3 row(own)
theorem ok_Line_run (T : Txt K mg) (TB : LamX.TabB base mg (He.cT K fr).1 (He.cT K fr).2) : ∃ fd, FnOk P w K mg base CX0 5 (He.ma K (He.ga K "Line") "run") fd ["self", "hour"] (spRun K) ∧ Binds K fd ["self", "hour"] [] := by
  obtain ⟨fd, F⟩ := T.f_Line_run
  obtain ⟨_, G_Line_need_hour, b_Line_need_hour⟩ := ok_Line_need_hour (P := P) (w := w) (base := base) T
  obtain ⟨_, G_parcels_in, b_parcels_in⟩ := ok_parcels_in (P := P) (w := w) (base := base) T
  obtain ⟨_, G_sent_by, b_sent_by⟩ := ok_sent_by (P := P) (w := w) (base := base) T TB
  refine ⟨fd, F.ok sc_Line_run (fun vs H Q E h => ?_) (fun cdv A outer s H vs Q E hr h => ?_), F.bindsN fun _ _ _ _ _ _ us hl => match us, hl with | [_, _], _ => rfl⟩
  · obtain ⟨x, h, ws, sp, bn, ms, rfl, _⟩ := h
    rfl
  · obtain ⟨x, h, ws, sp, bn, ms, rfl, hL, hb, hrows, hml, hh, hwl, hsl, ht, k⟩ := h
    refine ⟨_, PSs.nox (pss_cons (ps_expr (pe_meth (pv 0) T.cl_Line T.m_Line_need_hour G_Line_need_hour (hr.mono (by decide)) b_Line_need_hour .nil pass0 (pa_cons (pv 1) pa_nil)))
      (pss_cons (ps_fld (pv 0) (pv 1) rfl)
      (pss_cons (ps_setLc (i := 2) (own := [("row", 3)]) rfl sc_Line_run.nd rfl rfl (sw_true rfl rfl rfl (by decide +kernel)) (pi_list (pe_fld (pv 0) rfl)) (blkOk_by (N := N_Line_run) (sc := defScope s_Line_run) (by decide +kernel)) (fun _ _ _ _ _ => (pg_name (i := 3) sc_Line_run.nd rfl (Or.inl rfl))) (fun _ _ _ _ _ => (pts_one (pt_cmpR (op_lt) (pe_ix (ix_seqK K rfl) (pv 3) pe_int (fun _ _ => rfl)) (pv 1) (nomark _)))) (fun _ _ _ _ _ => (pv 3)))
      (pss_cons (ps_fld (pv 0) (pe_call G_parcels_in (hr.mono (by decide)) rfl T.g_parcels_in T.k_parcels_in b_parcels_in .nil pass0 (pa_cons (pe_fld (pv 0) rfl) (pa_cons (pv 2) (pa_cons (pe_fld (pv 0) rfl) pa_nil)))) rfl)
      (pss_one (ps_fld (pv 0) (pe_call G_sent_by (hr.mono (by decide)) rfl T.g_sent_by T.k_sent_by b_sent_by .nil pass0 (pa_cons (pe_fld (pv 0) rfl) (pa_cons (pe_fld (pv 0) rfl) (pa_cons (pv 1) pa_nil)))) rfl)))))), ?_⟩
    have cL := T.cl_Line
    obtain ⟨dx, ha⟩ := id hL.i
    refine ⟨_, rfl, x.ln, dx, _, rfl, ha, rfl, _, rfl, x, h, rfl, ⟨dx, ha⟩, hh, ?_⟩
    refine ⟨_, rfl, _, rfl, _, _, dx, _, rfl, ha, cL, T.na_Line_hour, fl1000 rfl, ?_⟩
    generalize e : upd _ x.ln _ = H1
    obtain ⟨ha1, k1⟩ := putI e ha
    have lnb : ∀ y ∈ x.bus :: bn :: ms.map (·.1), y ∉ [x.ln] := fun y hy => n1 (fun e => by
      subst e
      obtain ⟨dxb, br, kvs, b1, b2, b3, b4, b5⟩ := hb
      rcases List.mem_cons.mp hy with e | hy
      · rw [e, b1] at ha
        injection ha with ha
        injection ha with _ _ ha
        injection ha with ha _
        injection ha with ha _
        exact absurd ha (by decide +kernel)
      · rcases List.mem_cons.mp hy with e | hy
        · rw [e, b3] at ha
          cases ha
        · obtain ⟨m, hm, e⟩ := List.mem_map.mp hy
          obtain ⟨d, em⟩ := b5 m hm
          rw [← e, em] at ha
          injection ha with ha
          injection ha with _ _ ha
          injection ha with ha _
          injection ha with ha _
          exact absurd ha (by decide +kernel))
    have hb1 := hb.kp k1 lnb
    have hA1 := hL.a.kp k1 (n1 hL.lna.symm)
    have hB1 := k1.lst hL.b (n1 hL.lnb.symm)
    obtain ⟨us, eA, hus⟩ := hA1.ex
    have hul := hus.len
    rw [List.length_map] at hul
    refine ⟨_, rfl, _, _, dx, _, _, rfl, ha1, cL, T.na_Line_asked_for, rfl, x.asked, rfl, ⟨_, SqL.of eA⟩, fun D hD => ?_⟩
    refine lc_it (walk_list (K := K) (xs := us)) (fun i H' => LD H' D (((ws.take i).filter fun w => decide (w.1 < h)).map wishD) ∧ Kp [] H1 H') ?_ (fun _ H' _ q => SqL.of (q.2.lst eA n0)) ?_ ?_
    · generalize e : upd _ D _ = H2
      obtain ⟨e2, k2⟩ := newF e hD
      exact ⟨⟨_, e2, .nil⟩, k2⟩
    · rintro i y H2 H3 hi ⟨hD2, k2⟩ ⟨rfl, hy⟩
      have hi2 : i < ws.length := by omega
      obtain ⟨d, hd, hdt⟩ := (hus.kp k2).get hy
      rw [List.getElem?_map, List.getElem?_eq_getElem hi2] at hd
      obtain rfl : wishD ws[i] = d := by simpa using hd
      have htk : ws.take (i + 1) = ws.take i ++ [ws[i]] := List.take_succ_eq_append_getElem hi2
      obtain ⟨ta, xs, rfl, hta, hx⟩ := id hdt.tup_inv
      obtain ⟨v1, w1, rfl, d1, g2⟩ := hx.cons_inv
      obtain rfl := d1.int_inv
      refine ⟨rfl, ?_⟩
      by_cases hw : ws[i].1 < h
      · refine ⟨_, rfl, .inr (.inl ⟨ta, _, _, _, rfl, rfl, SqT.of hta, at_of (j := 0) rfl rfl, _, rfl, _, _, rfl, rfl, true, congrArg V.bl (decide_eq_true hw), ?_⟩)⟩
        obtain ⟨vs, eD, hvs⟩ := hD2.ex
        have hvl := hvs.len
        rw [List.length_map] at hvl
        have hfl := List.length_filter_le (fun w : Int × Str => decide (w.1 < h)) (ws.take i)
        rw [List.length_take] at hfl
        refine ⟨_, rfl, vs, eD, by rw [hvl]; exact small1000 (by omega), ?_⟩
        generalize e : upd _ D _ = H4
        obtain ⟨e4, k4⟩ := putL e eD
        refine ⟨⟨_, e4, ?_⟩, k2.mut k4 hD⟩
        rw [htk, List.filter_append, List.map_append, List.filter_cons, if_pos (decide_eq_true hw)]
        exact (hvs.kp k4).app (.one (hdt.kp k4))
      · refine ⟨_, rfl, .inr (.inl ⟨ta, _, _, _, rfl, rfl, SqT.of hta, at_of (j := 0) rfl rfl, _, rfl, _, _, rfl, rfl, false, congrArg V.bl (decide_eq_false hw), ?_⟩)⟩
        refine ⟨?_, k2⟩
        rw [htk, List.filter_append, List.filter_cons, if_neg (by rw [decide_eq_false hw]; simp)]
        simpa using hD2
    · rintro H2 ⟨hD2, k2⟩
      rw [hul, List.take_length] at hD2
      have ha2 := k2.ins ha1 n0
      have hfl := List.length_filter_le (fun w : Int × Str => decide (w.1 < h)) ws
      generalize ws.filter (fun w => decide (w.1 < h)) = wf at hD2 hfl k
      refine ⟨_, rfl, _, _, dx, _, _, rfl, ha2, cL, T.na_Line_wire, rfl, _, rfl, _, rfl, _, _, dx, _, _, rfl, ha2, cL, T.na_Line_gated, rfl, x.bus, bn, D, ms, wf, x.g, rfl, hb1.kp k2 (fun _ _ => n0), hD2, by omega, hml, fun mv ps H3 hmv k3 emv hps hpf hnd hjs => ?_⟩
      have ha3 := k3.ins ha2 n0
      refine ⟨_, rfl, _, _, dx, _, rfl, ha3, cL, T.na_Line_moving, fl1000 rfl, ?_⟩
      generalize e : upd _ x.ln _ = H4
      obtain ⟨ha4, k4⟩ := putI e ha3
      have mvl : mv ≠ x.ln := ne_of emv ha3 (fun z => nomatch z)
      have k13 := k2.trans k3
      have hB4 := k4.lst (k13.lst hB1 n0) (n1 hL.lnb.symm)
      have insne : ∀ p ∈ ps, p.a ≠ x.ln ∧ p.m ≠ x.ln := fun p hp => by
        obtain ⟨⟨d, e⟩, ⟨d2, e2⟩⟩ := hps p hp
        refine ⟨ne_of e ha3 (fun z => ?_), ne_of e2 ha3 (fun z => ?_)⟩
        · injection z with _ _ z
          injection z with z _
          injection z with z _
          exact absurd z (by decide +kernel)
        · injection z with _ _ z
          injection z with z _
          injection z with z _
          exact absurd z (by decide +kernel)
      have hps4 := hps.kp k4 fun p hp => ⟨n1 (insne p hp).1, n1 (insne p hp).2⟩
      have t4 := k4.tabs (k13.tabs (k1.tabs ht))
      have hnf : ∃ s, SortedOf s wf := exists_sorted wf
      obtain ⟨s0, hs0⟩ := hnf
      have hj0 := hjs s0 hs0
      have hpl : ps.length ≤ 390 := by
        have z := congrArg List.length hj0
        rw [List.length_map] at z
        have y := parcels_len (ms.map (·.2)) s0 x.g
        have y2 := hs0.1.length_eq
        rw [List.length_map] at y
        have y3 : ms.length * s0.length ≤ 15 * 26 := Nat.mul_le_mul hml (by omega)
        omega
      refine ⟨_, rfl, _, _, dx, _, _, rfl, ha4, cL, T.na_Line_moving, rfl, _, rfl, _, _, dx, _, _, rfl, ha4, cL, T.na_Line_bad_ticks, rfl, _, rfl, mv, x.bad, h, ps, sp, rfl, k4.lst emv (n1 mvl), hB4, hps4, hnd, by rw [hj0]; exact parcels_keys hrows.ranks s0 x.g, fun p hp => ?_, by omega, hsl, t4, fun rw H5 hrw k5 t5 r5 p5 => ?_⟩
      · have hm := (hrows.ok p.j.m ?_).most.1
        · exact hm
        · have : p.j ∈ parcelsIn (ms.map (·.2)) s0 x.g := by
            rw [← hj0]
            exact List.mem_map.mpr ⟨p, hp, rfl⟩
          exact parcels_msg _ this
      · have lnS : x.ln ∉ ps.map (·.a) := fun q => by
          obtain ⟨p, hp, e⟩ := List.mem_map.mp q
          exact (insne p hp).1 e
        have ha5 := k5.ins ha4 lnS
        refine ⟨_, rfl, _, _, dx, _, rfl, ha5, cL, T.na_Line_rows, fl1000 rfl, ?_⟩
        generalize e : upd _ x.ln _ = H6
        obtain ⟨ha6, k6⟩ := putI e ha5
        have hpf1 : ∀ p ∈ ps, H p.a = none := fun p hp => k1.free (n1 (insne p hp).1) (k2.free0 (hpf p hp))
        have notS : ∀ y, H1 y ≠ none → y ∉ ps.map (·.a) := fun y hy q => by
          obtain ⟨p, hp, e⟩ := List.mem_map.mp q
          exact hy (e ▸ k2.free0 (hpf p hp))
        have rwl : rw ≠ x.ln := (ne_of_none ha4 hrw).symm
        have mvS : mv ∉ ps.map (·.a) := fun q => by
          obtain ⟨p, hp, e⟩ := List.mem_map.mp q
          obtain ⟨⟨d, ep⟩, _⟩ := hps p hp
          exact ne_of emv ep (fun z => nomatch z) e.symm
        have askN : x.asked ∉ ps.map (·.a) := notS _ (by rw [eA]; simp)
        have badN : x.bad ∉ ps.map (·.a) := notS _ (by rw [hB1]; simp)
        have kAll : Kw [x.ln] H H6 := (Kg_fresh ((k1.trans k13.any).trans k4).w k5 (fun q hq => by obtain ⟨p, hp, e⟩ := List.mem_map.mp hq; rw [← e]; exact hpf1 p hp)).trans k6.w
        refine k H6 mv rw ps (k1.free (n1 mvl) (k2.free0 hmv)) (k1.free (n1 rwl) (k13.free0 (k4.free (n1 rwl) hrw))) hpf1 kAll (k6.tabs t5) ⟨⟨dx, ha6⟩, ?_, k6.lst (k5.lst hB4 badN) (n1 hL.lnb.symm), hL.ne⟩ (by omega) hjs ⟨k6.lst (k5.lst (k4.lst emv (n1 mvl)) mvS) (n1 mvl), p5.kp k6 fun p hp => ⟨n1 (insne p hp).1, n1 (insne p hp).2⟩, r5.kp k6 (n1 rwl)⟩
        exact (((hA1.kp k13 n0).kp k4 (n1 hL.lna.symm)).kp k5 askN).kp k6 (n1 hL.lna.symm)
end
end K57
set_option Elab.async false
set_option linter.all false
set_option maxRecDepth 100000
set_option maxHeartbeats 4000000
namespace K57
open PySem L2 Pw
abbrev It' : Type := Int × Option Str
def itD (i : It') : PyData := match i.2 with
  | some n => .tuple [.int i.1, .str n]
  | none => .tuple [.int i.1]
def wsOf (l : List It') : List (Int × Str) := l.filterMap fun i => i.2.map fun n => (i.1, n)
def spOf (l : List It') : List Int := l.filterMap fun i => if i.2.isNone then some i.1 else none
def spTold (K : PySem.W.Frag) : Sp := fun vs H Q _ => ∃ (t ca l : Addr) (x : LineV) (ws : List (Int × Str)) (sp : List Int) (bn : Addr) (ms : List (Addr × RowD)) (its : List It') (n : Nat), vs = [.ref t, .ref x.ln, .ref l] ∧ Tape H t ca n ∧ LineAt K H x ws sp ∧ BusAt K H x.bus bn ms ∧ LD H l (its.map itD) ∧ its.length ≤ 40 ∧
  (∀ i ∈ its, x.hour ≤ i.1 ∧ ∀ nm, i.2 = some nm → PySem.PyData.strOk nm = true ∧ nm ∈ ms.map (·.2.name)) ∧ ws.length ≤ 50 ∧ sp.length ≤ 50 ∧ n ≤ 900000 ∧ (∀ y ∈ x.bus :: bn :: ms.map (·.1), y ≠ t ∧ y ≠ x.asked ∧ y ≠ x.bad) ∧ (x.asked ≠ ca ∧ x.bad ≠ ca) ∧
  ∀ (H' : Hp) (ws' : List (Int × Str)) (sp' : List Int), Kp [t, x.asked, x.bad] H H' → Tape H' t ca (n + its.length) → LineAt K H' x (ws ++ ws') (sp ++ sp') → ws'.Perm (wsOf its) → sp'.Perm (spOf its) → Q .non H'
structure SRow.Ok (r : SRow) : Prop where
  n : PySem.PyData.strOk r.name = true
  w : PySem.PyData.strOk r.word = true
theorem SRow.Ok.okd {r : SRow} {k : Nat} (h : r.Ok) : Okd (k + 1) r.d := Okd.tuple (okd_cons (.int _) (okd_cons (.int _) (okd_cons (.str h.n) (okd_cons (.int _) (okd_cons (.str h.w) okd_nil)))))
theorem rows_okd {rs : List SRow} {k : Nat} (h : ∀ r ∈ rs, r.Ok) : ∀ d ∈ rs.map SRow.d, Okd (k + 1) d := fun d hd => by
  obtain ⟨r, hr, rfl⟩ := List.mem_map.mp hd
  exact (h r hr).okd
theorem goes_cases {r1 r2 : List SRow} (g : Goes r1 r2) : r1 = [] ∨ ∃ (r : List SRow) (x : SRow), r1 = r ++ [x] ∧ ((x.word ≠ ("going" : Str) ∧ ∃ more, r2 = r1 ++ more) ∨ (x.word = ("going" : Str) ∧ ∃ (y : SRow) (more : List SRow), r2 = r ++ y :: more ∧ y.start = x.start ∧ y.name = x.name ∧ y.place = x.place)) := by
  rcases List.eq_nil_or_concat r1 with h | ⟨r, x, h⟩
  · exact .inl h
  · rw [List.concat_eq_append] at h
    refine .inr ⟨r, x, h, ?_⟩
    by_cases hx : x.word = ("going" : Str)
    · refine .inr ⟨hx, ?_⟩
      rcases g with ⟨more, e⟩ | ⟨q, h1, s1, s2, n, p, w, more, e1, e2⟩
      · exact ⟨x, more, by rw [e, h, List.append_assoc]; rfl, rfl, rfl, rfl⟩
      · rw [h] at e1
        obtain ⟨e3, e4⟩ := List.append_inj' e1 rfl
        injection e4 with e4 _
        subst e3 e4
        exact ⟨_, more, e2, rfl, rfl, rfl⟩
    · refine .inl ⟨hx, ?_⟩
      rcases g with ⟨more, e⟩ | ⟨q, h1, s1, s2, n, p, w, more, e1, e2⟩
      · exact ⟨more, e⟩
      · rw [h] at e1
        obtain ⟨e3, e4⟩ := List.append_inj' e1 rfl
        injection e4 with e4 _
        rw [e4] at hx
        exact absurd rfl hx
theorem cutV_to (vs : List V) (k : Nat) : cutV vs none (some (k : Int)) = vs.take k := by
  unfold cutV
  rw [HT.sIx_nat, HT.sIx_none, List.drop_zero, Nat.sub_zero]
  exact (List.take_eq_take_min ..).symm
theorem DTs_take {H : Hp} : ∀ {vs : List V} {ds : List PyData} (k : Nat), DTs H vs ds → DTs H (vs.take k) (ds.take k)
  | _, _, 0, _ => by rw [List.take_zero, List.take_zero]; exact .nil
  | _, _, _ + 1, .nil => .nil
  | _, _, k + 1, .cons a t => .cons a (DTs_take k t)
theorem cut24 (a b c d e : V) : cutV [a, b, c, d, e] (some 2) (some 4) = [c, d] := rfl
theorem cut24_in (a b c d e : V) : ¬ (HT.sIx [a, b, c, d, e].length 0 (some 2) = 0 ∧ HT.sIx [a, b, c, d, e].length [a, b, c, d, e].length (some 4) = [a, b, c, d, e].length) := fun h => absurd (show (2 : Nat) = 0 from h.1) (by decide)
theorem cutV_m1 (a : List V) (v : V) : cutV (a ++ [v]) none (some (-1)) = a := by
  unfold cutV
  rw [HT.sIx_none, List.drop_zero, Nat.sub_zero]
  have e : HT.sIx (a ++ [v]).length (a ++ [v]).length (some (-1)) = a.length := by
    unfold HT.sIx
    simp
    omega
  rw [e, List.take_append_of_le_length (Nat.le_refl _), List.take_length]
theorem DTs_split {H : Hp} {es : List PyData} : ∀ {ds : List PyData} {vs : List V}, DTs H vs (ds ++ es) → ∃ a b, vs = a ++ b ∧ DTs H a ds ∧ DTs H b es
  | [], vs, h => ⟨[], vs, rfl, .nil, h⟩
  | d :: ds, vs, h => by
    obtain ⟨v, w, rfl, d1, t⟩ := DTs.cons_inv (show DTs H vs (d :: (ds ++ es)) from h)
    obtain ⟨a, b, rfl, h1, h2⟩ := DTs_split t
    exact ⟨v :: a, b, rfl, .cons d1 h1, h2⟩
theorem srow_inv {H : Hp} {v : V} {r : SRow} (h : DT H v r.d) : ∃ a, v = .ref a ∧ H a = some (.tup [.int r.start, .int r.stop, .str r.name, .int r.place, .str r.word]) := by
  obtain ⟨a, xs, rfl, ha, h1⟩ := h.tup_inv
  obtain ⟨v1, w1, rfl, d1, h2⟩ := h1.cons_inv
  obtain ⟨v2, w2, rfl, d2, h3⟩ := h2.cons_inv
  obtain ⟨v3, w3, rfl, d3, h4⟩ := h3.cons_inv
  obtain ⟨v4, w4, rfl, d4, h5⟩ := h4.cons_inv
  obtain ⟨v5, w5, rfl, d5, h6⟩ := h5.cons_inv
  obtain rfl := h6.nil_inv
  obtain rfl := d1.int_inv
  obtain rfl := d2.int_inv
  obtain rfl := d3.str_inv
  obtain rfl := d4.int_inv
  obtain rfl := d5.str_inv
  exact ⟨a, rfl, ha⟩
def spGoes : Sp := fun vs H Q _ => ∃ (e l : Addr) (r1 r2 : List SRow), vs = [.ref e, .ref l] ∧ LD H e (r1.map SRow.d) ∧ LD H l (r2.map SRow.d) ∧ Goes r1 r2 ∧ (∀ r ∈ r1, r.Ok) ∧ (∀ r ∈ r2, r.Ok) ∧ r1.length ≤ 900 ∧ r2.length ≤ 900 ∧ ∀ H', Kp [] H H' → Q (.bl true) H'
section
variable {P : Program} {w : World} {K : PySem.W.Frag} {mg : Str → Option Value} {base : Heap}
-- slots: 0 tape, 1 line, 2 things, 3 left, 4 one
theorem ok_law_told_to (T : Txt K mg) : ∃ fd, FnOk P w K mg base CX0 3 (He.ga K "_law_told_to") fd ["tape", "line", "things"] (spTold K) ∧ Binds K fd ["tape", "line", "things"] [] := by
  obtain ⟨fd, F⟩ := T.f_law_told_to
  obtain ⟨_, G_Line_spoil, _, _, kb_Line_spoil, gs⟩ := ok_Line_spoil (P := P) (w := w) (base := base) T
  obtain ⟨_, G_Line_wish, _, _, kb_Line_wish, gw⟩ := ok_Line_wish (P := P) (w := w) (base := base) T
  obtain ⟨_, G__law_draw, b__law_draw⟩ := ok_law_draw (P := P) (w := w) (base := base) T
  refine ⟨fd, F.ok sc_law_told_to (fun vs H Q E h => ?_) (fun cdv A outer s H vs Q E hr h => ?_), F.bindsN fun _ _ _ _ _ _ us hl => match us, hl with | [_, _, _], _ => rfl⟩
  · obtain ⟨t, ca, l, x, ws, sp, bn, ms, its, n, rfl, _⟩ := h
    rfl
  · obtain ⟨t, ca, l, x, ws, sp, bn, ms, its, n, rfl, TT, hL, hb, hl, hil, hok, hwl, hsl, hn, hd, hca, k⟩ := h
    refine ⟨_, PSs.nox (pss_cons (ps_set (i := 3) sc_law_told_to.nd rfl (Or.inl rfl) (pe_callTy call_list_of (by rfl) T.b_list (by decide +kernel) (pa_cons (pv 2) pa_nil)))
      (pss_one (ps_while PassesOwn.never (pt_cmpR (op_neD hr.units) (pv 3) (pe_lst pa_nil) (nomark _))
        (pss_cons (ps_set (i := 4) sc_law_told_to.nd rfl (Or.inl rfl) (pe_bm PySem.F.plainAttrs_list PySem.F.slot_list_pop PySem.F.type_list_pop mt_popAt (pv 3) (pa_cons (pe_call G__law_draw (hr.mono (by decide)) rfl T.g__law_draw T.k__law_draw b__law_draw .nil pass0 (pa_cons (pv 0) (pa_cons (pe_callB call_len (by rfl) T.b_len (by decide +kernel) (pa_cons (pv 3) pa_nil)) pa_nil))) pa_nil)))
        (pss_one (ps_if (pt_cmpR (op_eq) (pe_callB call_len (by rfl) T.b_len (by decide +kernel) (pa_cons (pv 4) pa_nil)) pe_int (nomark _))
          (pss_one (ps_expr (pe_methK0 (pv 1) T.cl_Line T.m_Line_spoil G_Line_spoil (hr.mono (by decide)) kb_Line_spoil pass0 (pk_cons (pe_ix ix_seq (pv 4) pe_int (fun _ _ => rfl)) pk_nil))))
          (pss_one (ps_expr (pe_methK0 (pv 1) T.cl_Line T.m_Line_wish G_Line_wish (hr.mono (by decide)) kb_Line_wish pass0 (pk_cons (pe_ix ix_seq (pv 4) pe_int (fun _ _ => rfl)) (pk_cons (pe_ix ix_seq (pv 4) pe_int (fun _ _ => rfl)) pk_nil))))))))))), ?_⟩
    obtain ⟨vs, hv, hds⟩ := hl.ex
    refine ⟨_, rfl, l, vs, rfl, .inl (SqL.of hv), fun L hL0 => ?_⟩
    generalize e : upd _ L _ = H1
    obtain ⟨e1, k1⟩ := newF e hL0
    have hLt : L ≠ t := by
      obtain ⟨_, _, _, h1, _⟩ := TT.ex
      exact (ne_of_none h1 hL0).symm
    have hLca : L ≠ ca := by
      obtain ⟨_, _, _, _, h1, _⟩ := TT.ex
      exact (ne_of_none h1 hL0).symm
    have hLx : ∀ y ∈ [x.ln, x.asked, x.bad], y ≠ L := fun y hy e => hL.known y hy (e ▸ hL0)
    have hLb : ∀ y ∈ x.bus :: bn :: ms.map (·.1), y ≠ L := fun y hy e => hb.known y hy (e ▸ hL0)
    have tln : x.ln ≠ t := by
      obtain ⟨_, _, _, h1, _⟩ := TT.ex
      obtain ⟨d, e⟩ := hL.i
      exact ne_of e h1 (fun z => nomatch z)
    have tas : x.asked ≠ t := by
      obtain ⟨_, e, _⟩ := hL.a.ex
      exact TT.nl e
    have tbd : x.bad ≠ t := TT.nl hL.b
    have caas : x.asked ≠ ca ∧ x.bad ≠ ca := hca
    refine while_by (fun σ' H' => ∃ (ov : Option V) (lt dn : List It'), σ' = [some (.ref t), some (.ref x.ln), some (.ref l), some (.ref L), ov] ∧ (dn ++ lt).Perm its ∧ Kp [t, x.asked, x.bad, L] H1 H' ∧ Tape H' t ca (n + dn.length) ∧
        LineAt K H' x (ws ++ wsOf dn) (sp ++ spOf dn) ∧ LD H' L (lt.map itD))
      (fun _ H' => lenAt H' L) ?_ ?_ (fun σ H Q Q' m q => ne_nil_mono m q)
    · exact ⟨_, its, [], rfl, List.Perm.refl _, Kp.refl _ _, TT.kp0 k1, by simpa [wsOf, spOf] using hL.kp k1 (fun _ _ => n0), ⟨_, e1, hds.kp k1⟩⟩
    · rintro σ' H2 ⟨ov, lt, dn, rfl, hp, k2, T2, L2', hlt⟩
      have hmem : ∀ i ∈ lt, i ∈ its := fun i hi => hp.mem_iff.mp (List.mem_append.mpr (.inr hi))
      have hcount := hp.length_eq
      rw [List.length_append] at hcount
      refine ne_nil_step rfl hlt (fun d hd => ?_) (fun hnil H3 k3 => ?_) (fun hnil H3 k3 => ?_)
      · obtain ⟨i, hi, rfl⟩ := List.mem_map.mp hd
        obtain ⟨h, nm⟩ := i
        cases nm with
        | none => exact Okd.tuple (k := 61) (okd_cons (.int _) okd_nil)
        | some nm => exact Okd.tuple (k := 61) (okd_cons (.int _) (okd_cons (.str ((hok _ (hmem _ hi)).2 nm rfl).1) okd_nil))
      · have hlt0 : lt = [] := List.map_eq_nil_iff.mp hnil
        subst hlt0
        rw [List.append_nil] at hp
        refine k H3 (wsOf dn) (spOf dn) ?_ ((T2.kp0 k3).le (by simp at hcount; omega)) (L2'.kp k3 fun _ _ => n0) (hp.filterMap _) (hp.filterMap _)
        refine (Kg_mutL (p := L) (S := [t, x.asked, x.bad]) k1.any (k2.wide fun y hy => ?_) hL0).trans k3.any
        simp only [List.mem_cons, List.not_mem_nil, or_false] at hy ⊢
        rcases hy with h | h | h | h <;> simp [h]
      · obtain ⟨xs, ex, hxs⟩ := (hlt.kp k3 n0).ex
        have hxl : xs.length = lt.length := by rw [hxs.len, List.length_map]
        have hpos : 0 < lt.length := by
          cases lt with
          | nil => exact absurd rfl hnil
          | cons _ _ => exact Nat.succ_pos _
        have T3 := T2.kp0 k3
        refine ⟨_, rfl, tyL ex, _, rfl, _, rfl, _, _, rfl, .inl ⟨_, SqL.of ex, rfl⟩, t, ca, _, _, rfl, T3, by omega, by omega, by omega, fun di H4 di0 di1 k4 T4 => ?_⟩
        have ex4 := k4.lst ex (n1 hLt)
        have hxs4 := hxs.kp k4
        have hlti : di.toNat < xs.length := by omega
        refine ⟨L, xs, di, _, xs[di.toNat], rfl, rfl, ex4, by omega, by omega, seqIx di0 di1, List.getElem?_eq_getElem hlti, ?_⟩
        generalize e : upd _ L _ = H5
        obtain ⟨e5, k5⟩ := putL e ex4
        obtain ⟨dd, hdd, hdt⟩ := hxs4.get (List.getElem?_eq_getElem hlti)
        rw [List.getElem?_map] at hdd
        obtain ⟨it, hpx, rfl⟩ := Option.map_eq_some_iff.mp hdd
        have hdt5 := hdt.kp k5
        have T5 := T4.kp k5 (n1 hLt.symm) (n1 hLca.symm)
        have him := List.mem_of_getElem? hpx
        obtain ⟨hh, hnm⟩ := hok _ (hmem _ him)
        have lS : ∀ y ∈ [x.ln, x.asked, x.bad], y ∉ [t] := fun y hy => n1 (by
          simp only [List.mem_cons, List.not_mem_nil, or_false] at hy
          rcases hy with rfl | rfl | rfl
          · exact tln
          · exact tas
          · exact tbd)
        have L5 := ((L2'.kp k3 fun _ _ => n0).kp k4 lS).kp k5 fun y hy => n1 (hLx y hy)
        have kS : ∀ {S : List Addr} {A B : Hp}, Kp S A B → (∀ y ∈ S, y ∈ [t, x.asked, x.bad, L]) → Kp [t, x.asked, x.bad, L] A B := fun k h => k.wide h
        have k15 : Kp [t, x.asked, x.bad, L] H1 H5 := ((k2.trans k3.any).trans (kS k4 (by simp))).trans (kS k5 (by simp))
        have hd5 : DTs H5 (xs.eraseIdx di.toNat) ((lt.eraseIdx di.toNat).map itD) := by
          have z := (hxs4.kp k5).erase di.toNat
          rwa [erase_map] at z
        have hperm : ((dn ++ [it]) ++ lt.eraseIdx di.toNat).Perm its := by
          rw [List.append_assoc]
          exact (List.Perm.append_left _ (erase_perm hpx)).trans hp
        have hless : ∀ H' ys, H' L = some (.lst ys) → ys = xs.eraseIdx di.toNat → lenAt H' L < lenAt H2 L := fun H' ys e1 e2 => by
          obtain ⟨zs, ez, hz⟩ := hlt.ex
          rw [lenAt_of e1, lenAt_of ez, e2, hz.len, List.length_map, List.length_eraseIdx, if_pos hlti]
          omega
        have wl : (ws ++ wsOf dn).length ≤ 100 := by
          rw [List.length_append]
          have : (wsOf dn).length ≤ dn.length := List.length_filterMap_le ..
          omega
        have sl : (sp ++ spOf dn).length ≤ 100 := by
          rw [List.length_append]
          have : (spOf dn).length ≤ dn.length := List.length_filterMap_le ..
          omega
        obtain ⟨ih, inm⟩ := it
        cases inm with
        | none =>
          obtain ⟨ta, ys, eo, hta, hy⟩ := hdt5.tup_inv
          rw [eo]
          obtain ⟨v1, w1, rfl, d1, g2⟩ := hy.cons_inv
          obtain rfl := g2.nil_inv
          obtain rfl := d1.int_inv
          refine ⟨_, rfl, _, _, rfl, .inr ⟨_, SqT.of hta, rfl⟩, rfl, true, rfl, ?_⟩
          obtain ⟨dl, el⟩ := id L5.i
          refine ⟨_, rfl, x.ln, dl, _, rfl, el, rfl, _, rfl, .inr (.inl ⟨ta, _, _, _, rfl, rfl, SqT.of hta, at_of (j := 0) rfl rfl, rfl, rfl, ?_⟩)⟩
          rw [gs]
          refine ⟨x, ih, _, _, rfl, L5, hh, sl, fun H6 k6 L6 => ?_⟩
          have eL6 := k6.lst e5 (n1 (hLx x.bad (by simp)).symm)
          refine ⟨⟨_, lt.eraseIdx di.toNat, dn ++ [(ih, none)], rfl, hperm, k15.trans (kS k6 (by simp)), ?_, ?_, ⟨_, eL6, hd5.kp k6⟩⟩, hless _ _ eL6 rfl⟩
          · rw [List.length_append]
            exact (T5.kp k6 (n1 tbd.symm) (n1 caas.2.symm)).le (by show _ ≤ n + (dn.length + 1); omega)
          · have z1 : wsOf (dn ++ [(ih, none)]) = wsOf dn := by simp [wsOf]
            have z2 : spOf (dn ++ [(ih, none)]) = spOf dn ++ [ih] := by simp [spOf]
            rw [z1, z2, ← List.append_assoc]
            exact L6
        | some nm =>
          obtain ⟨ta, ys, eo, hta, hy⟩ := hdt5.tup_inv
          rw [eo]
          obtain ⟨v1, w1, rfl, d1, g2⟩ := hy.cons_inv
          obtain ⟨v2, w2, rfl, d2, g3⟩ := g2.cons_inv
          obtain rfl := g3.nil_inv
          obtain rfl := d1.int_inv
          obtain rfl := d2.str_inv
          refine ⟨_, rfl, _, _, rfl, .inr ⟨_, SqT.of hta, rfl⟩, rfl, false, rfl, ?_⟩
          obtain ⟨dl, el⟩ := id L5.i
          obtain ⟨_, hnm2⟩ := hnm nm rfl
          obtain ⟨m, hm, rfl⟩ := List.mem_map.mp hnm2
          refine ⟨_, rfl, x.ln, dl, _, rfl, el, rfl, _, rfl, .inr (.inl ⟨ta, _, _, _, rfl, rfl, SqT.of hta, at_of (j := 1) rfl rfl, ?_⟩)⟩
          refine ⟨_, rfl, .inr (.inl ⟨ta, _, _, _, rfl, rfl, SqT.of hta, at_of (j := 0) rfl rfl, rfl, rfl, ?_⟩)⟩
          rw [gw]
          have b5 : BusAt K H5 x.bus bn ms := (hb.kp k1 fun _ _ => n0).kp k15 fun y hy => by
            obtain ⟨q1, q2, q3⟩ := hd y hy
            have q4 := hLb y hy
            simp [q1, q2, q3, q4]
          refine ⟨x, ih, bn, ms, m, _, _, rfl, L5, b5, hm, hh, wl, fun H6 k6 L6 => ?_⟩
          have eL6 := k6.lst e5 (n1 (hLx x.asked (by simp)).symm)
          refine ⟨⟨_, lt.eraseIdx di.toNat, dn ++ [(ih, some m.2.name)], rfl, hperm, k15.trans (kS k6 (by simp)), ?_, ?_, ⟨_, eL6, hd5.kp k6⟩⟩, hless _ _ eL6 rfl⟩
          · rw [List.length_append]
            exact (T5.kp k6 (n1 tas.symm) (n1 caas.1.symm)).le (by show _ ≤ n + (dn.length + 1); omega)
          · have z1 : wsOf (dn ++ [(ih, some m.2.name)]) = wsOf dn ++ [(ih, m.2.name)] := by simp [wsOf]
            have z2 : spOf (dn ++ [(ih, some m.2.name)]) = spOf dn := by simp [spOf]
            rw [z1, z2, ← List.append_assoc]
            exact L6
-- slots: 0 elder, 1 later, 2 last
theorem ok_law_goes_on (T : Txt K mg) : ∃ fd, FnOk P w K mg base CX0 1 (He.ga K "_law_goes_on") fd ["elder", "later"] spGoes ∧ Binds K fd ["elder", "later"] [] := by
  obtain ⟨fd, F⟩ := T.f_law_goes_on
  refine ⟨fd, F.ok sc_law_goes_on (fun vs H Q E h => ?_) (fun cdv A outer s H vs Q E hr h => ?_), F.bindsN fun _ _ _ _ _ _ us hl => match us, hl with | [_, _], _ => rfl⟩
  · obtain ⟨e, l, r1, r2, rfl, _⟩ := h
    rfl
  · obtain ⟨e, l, r1, r2, rfl, he, hl, hg, hok1, hok2, hl1, hl2, k⟩ := h
    refine ⟨_, PSs.nox (pss_cons (ps_if (PW.pt (pw_or (pt_cmpR (op_eqD hr.units) (pv 0) (pe_lst pa_nil) (nomark _)) (pw_or1 (pt_cmpR (op_ne) (pe_ix ix_tup (pe_ix ix_list (pv 0) (pe_un un_neg pe_int) (fun _ _ => rfl)) pe_int (fun _ _ => rfl)) pe_str (nomark _)))))
          (pss_one (ps_ret (pe_cmpR (op_eqD hr.units) (pe_slice sl_list (pv 1) po_none (po_some (pe_callB call_len (by rfl) T.b_len (by decide +kernel) (pa_cons (pv 0) pa_nil)))) (pv 0) (nomark _))))
          pss_nil)
      (pss_cons (ps_set (i := 2) sc_law_goes_on.nd rfl (Or.inl rfl) (pe_ix ix_list (pv 1) (pe_op op_sub (pe_callB call_len (by rfl) T.b_len (by decide +kernel) (pa_cons (pv 0) pa_nil)) pe_int) (fun _ _ => rfl)))
      (pss_one (ps_ret (pe_and (pe_cmpR (op_eqD hr.units) (pe_slice sl_list (pv 1) po_none (po_some (pe_op op_sub (pe_callB call_len (by rfl) T.b_len (by decide +kernel) (pa_cons (pv 0) pa_nil)) pe_int))) (pe_slice sl_list (pv 0) po_none (po_some (pe_un un_neg pe_int))) (nomark _)) (pe_one (pe_cmpR (op_eqD hr.units) (pe_op op_catT (pe_tup (pa_cons (pe_ix ix_tup (pv 2) pe_int (fun _ _ => rfl)) pa_nil)) (pe_slice sl_tup (pv 2) (po_some pe_int) (po_some pe_int))) (pe_op op_catT (pe_tup (pa_cons (pe_ix ix_tup (pe_ix ix_list (pv 0) (pe_un un_neg pe_int) (fun _ _ => rfl)) pe_int (fun _ _ => rfl)) pa_nil)) (pe_slice sl_tup (pe_ix ix_list (pv 0) (pe_un un_neg pe_int) (fun _ _ => rfl)) (po_some pe_int) (po_some pe_int))) (nomark _)))))))), ?_⟩
    obtain ⟨es, ee, hes⟩ := he.ex
    obtain ⟨ls, el, hls⟩ := hl.ex
    have hel := hes.len
    have hll := hls.len
    rw [List.length_map] at hel hll
    refine ⟨_, rfl, szb rfl, fun p hp => ?_⟩
    generalize eH : upd _ p _ = H1
    obtain ⟨e1, k1⟩ := newF eH hp
    refine ⟨.list (r1.map SRow.d), .list [], (he.kp k1 n0).dp, .lst (SqL.of e1) .nil, (Okd.list (rows_okd (k := 4) hok1)).shaped (by decide), (Okd.list okd_nil).shaped (k := 1) (by decide), ?_⟩
    have same : ∀ {B : Hp} {a b : Addr} {rs : List SRow} {Q : VK}, (∀ r ∈ rs, r.Ok) → LD B a (rs.map SRow.d) → LD B b (rs.map SRow.d) → Q (.bl true) B → rEqD K (.ref a) (.ref b) B Q := fun {B a b rs Q} hr h1 h2 q =>
      ⟨_, _, h1.dp, h2.dp, (Okd.list (rows_okd (k := 4) hr)).shaped (by decide), (Okd.list (rows_okd (k := 4) hr)).shaped (by decide), by
        rw [eqv_refl _ (Okd.list (rows_okd (k := 4) hr)).1]
        exact q⟩
    rcases goes_cases hg with h0 | ⟨r, x, h1, h2⟩
    · subst h0
      refine ⟨true, rfl, ?_⟩
      have el1 := k1.lst el n0
      have ee1 := k1.lst ee n0
      refine ⟨_, rfl, _, rfl, _, _, rfl, .inl ⟨_, SqL.of ee1, rfl⟩, ?_⟩
      refine ⟨_, rfl, l, ls, rfl, SqL.of el1, fun q hq => ?_⟩
      generalize eH : upd _ q _ = H2
      obtain ⟨e2, k2⟩ := newF eH hq
      have e2' : H2 q = some (.lst []) := by
        rw [e2, hel, cutV_to]
        rfl
      exact ⟨_, rfl, same (rs := []) (fun _ h => nomatch h) ⟨_, e2', .nil⟩ ((he.kp k1 n0).kp k2 n0) (k H2 (k1.trans k2))⟩
    · obtain ⟨ea, eb, he1, he2, he3⟩ := DTs_split (ds := r.map SRow.d) (es := [x.d]) (by
        rw [h1, List.map_append] at hes
        exact hes)
      obtain ⟨v, w', e3, hv, h4⟩ := he3.cons_inv
      have h4 := h4.nil_inv
      subst h4 e3 he1
      have heal := he2.len
      rw [List.length_map] at heal
      obtain ⟨va, rfl, hva⟩ := srow_inv (hv.kp k1)
      have ee1 := k1.lst ee n0
      have el1 := k1.lst el n0
      refine ⟨false, ?_, ?_⟩
      · rw [h1, List.map_append]
        cases r with
        | nil => rfl
        | cons _ _ => rfl
      refine ⟨_, rfl, _, rfl, e, ea ++ [.ref va], -1, .ref va, rfl, rfl, SqL.of ee1, atI_last _ _, va, _, 4, _, rfl, rfl, SqT.of hva, at_of (j := 4) rfl rfl, rfl, ?_⟩
      rcases h2 with ⟨hx, more, h2⟩ | ⟨hx, y, more, h2, y1, y2, y3⟩
      · refine ⟨true, congrArg V.bl (by rw [decide_eq_false fun z => hx (V.str.inj z)]; rfl), ?_⟩
        refine ⟨_, rfl, _, rfl, _, _, rfl, .inl ⟨_, SqL.of ee1, rfl⟩, _, rfl, l, ls, rfl, SqL.of el1, fun q hq => ?_⟩
        generalize eH : upd _ q _ = H2
        obtain ⟨e2, k2⟩ := newF eH hq
        have hd2 : LD H2 q (r1.map SRow.d) := by
          refine ⟨_, e2, ?_⟩
          rw [hel, cutV_to]
          have z := DTs_take r1.length ((hls.kp k1).kp k2)
          rw [h2, ← List.map_take, List.take_left] at z
          exact z
        exact ⟨_, rfl, same hok1 hd2 ((he.kp k1 n0).kp k2 n0) (k H2 (k1.trans k2))⟩
      · refine ⟨false, congrArg V.bl (by rw [hx]; decide), ?_⟩
        obtain ⟨la, lb, l1, l2, l3⟩ := DTs_split (ds := r.map SRow.d) (es := y.d :: more.map SRow.d) (by
          rw [h2, List.map_append] at hls
          exact hls)
        obtain ⟨v2, lb', e3, hv2, l4⟩ := l3.cons_inv
        subst e3 l1
        have hlal := l2.len
        rw [List.length_map] at hlal
        obtain ⟨vb, rfl, hvb⟩ := srow_inv (hv2.kp k1)
        have hrl : r1.length = r.length + 1 := by rw [h1, List.length_append]; rfl
        have hokr : ∀ q ∈ r, q.Ok := fun q hq => hok1 q (by rw [h1]; exact List.mem_append.mpr (.inl hq))
        refine ⟨_, rfl, _, rfl, _, _, rfl, .inl ⟨_, SqL.of ee1, rfl⟩, _, _, rfl, rfl, l, _, _, .ref vb, rfl, rfl, SqL.of el1, at_nn (by omega) ?_, ?_⟩
        · rw [hel, show (((r1.length : Nat) : Int) - 1).toNat = la.length by omega]
          simp
        refine ⟨_, rfl, _, rfl, _, _, rfl, .inl ⟨_, SqL.of ee1, rfl⟩, _, _, rfl, rfl, _, rfl, l, _, rfl, SqL.of el1, fun q hq => ?_⟩
        generalize eH : upd _ q _ = H2
        obtain ⟨e2, k2⟩ := newF eH hq
        refine ⟨_, rfl, _, rfl, _, rfl, e, _, rfl, SqL.of (k2.lst ee1 n0), fun q2 hq2 => ?_⟩
        rw [cutV_m1]
        generalize eH : upd _ q2 _ = H3
        obtain ⟨e3, k3⟩ := newF eH hq2
        have k23 := k2.trans k3
        have hd2 : LD H3 q (r.map SRow.d) := by
          refine ⟨_, k3.lst e2 n0, ?_⟩
          rw [hel, show (((r1.length : Nat) : Int) - 1) = ((la.length : Nat) : Int) by omega, cutV_to, List.take_left]
          exact ((l2.kp k1).kp k23)
        refine same hokr hd2 ⟨_, e3, (he2.kp k1).kp k23⟩ ⟨true, rfl, ?_⟩
        have hvb3 := k23.tup _ _ hvb
        have hva3 := k23.tup _ _ hva
        have ee3 := k23.lst ee1 n0
        refine ⟨_, rfl, vb, _, 0, _, rfl, rfl, SqT.of hvb3, at_of (j := 0) rfl rfl, szb rfl, fun p1 hp1 => ?_⟩
        generalize eH : upd _ p1 _ = H4
        obtain ⟨e4, k4⟩ := newF eH hp1
        refine ⟨_, rfl, _, rfl, _, rfl, vb, _, rfl, SqT.of (k4.tup _ _ hvb3), cut24_in _ _ _ _ _, fun p2 hp2 => ?_⟩
        rw [cut24]
        generalize eH : upd _ p2 _ = H5
        obtain ⟨e5, k5⟩ := newF eH hp2
        refine ⟨p1, p2, _, _, rfl, rfl, SqT.of (k5.tup _ _ e4), SqT.of e5, (fun z => nomatch z), szb rfl, (fun z => nomatch z), fun _ p3 hp3 => ?_⟩
        generalize eH : upd _ p3 _ = H6
        obtain ⟨e6, k6⟩ := newF eH hp3
        have k36 := (k4.trans k5).trans k6
        have ee6 := k36.lst ee3 n0
        have hva6 := k36.tup _ _ hva3
        refine ⟨_, rfl, _, rfl, e, _, -1, .ref va, rfl, rfl, SqL.of ee6, atI_last _ _, va, _, 0, _, rfl, rfl, SqT.of hva6, at_of (j := 0) rfl rfl, szb rfl, fun p4 hp4 => ?_⟩
        generalize eH : upd _ p4 _ = H7
        obtain ⟨e7, k7⟩ := newF eH hp4
        refine ⟨_, rfl, _, rfl, e, _, -1, .ref va, rfl, rfl, SqL.of (k7.lst ee6 n0), atI_last _ _, _, rfl, _, rfl, va, _, rfl, SqT.of (k7.tup _ _ hva6), cut24_in _ _ _ _ _, fun p5 hp5 => ?_⟩
        rw [cut24]
        generalize eH : upd _ p5 _ = H8
        obtain ⟨e8, k8⟩ := newF eH hp5
        refine ⟨p4, p5, _, _, rfl, rfl, SqT.of (k8.tup _ _ e7), SqT.of e8, (fun z => nomatch z), szb rfl, (fun z => nomatch z), fun _ p6 hp6 => ?_⟩
        generalize eH : upd _ p6 _ = H9
        obtain ⟨e9, k9⟩ := newF eH hp6
        have k69 := (k7.trans k8).trans k9
        have okt : Okd 4 (.tuple [.int x.start, .str x.name, .int x.place]) := Okd.tuple (okd_cons (.int _) (okd_cons (.str (hok1 x (by rw [h1]; simp)).n) (okd_cons (.int _) okd_nil)))
        refine ⟨.tuple [.int x.start, .str x.name, .int x.place], .tuple [.int x.start, .str x.name, .int x.place], .tup (SqT.of (k69.tup _ _ e6)) ?_, .tup (SqT.of e9) (.cons (.int _) (.cons (.str _) (.cons (.int _) .nil))), okt.shaped (by decide), okt.shaped (by decide), ?_⟩
        · rw [y1, y2, y3]
          exact .cons (.int _) (.cons (.str _) (.cons (.int _) .nil))
        · rw [eqv_refl _ okt.1]
          exact k H9 (((k1.trans k23).trans k36).trans k69)
end
end K57
set_option Elab.async false
set_option linter.all false
set_option maxRecDepth 100000
set_option maxHeartbeats 4000000
namespace K57
open PySem L2 Pw
/-! ### plain: the things told -/
theorem wsOf_filter (m : Int) : ∀ l : List It', wsOf (l.filter fun i => decide (i.1 < m)) = (wsOf l).filter fun w => decide (w.1 < m)
  | [] => rfl
  | (h, nm) :: r => by
    have ih := wsOf_filter m r
    by_cases c : h < m
    · rw [List.filter_cons, if_pos (decide_eq_true c)]
      cases nm with
      | none => exact ih
      | some nm =>
        show (h, nm) :: wsOf (r.filter _) = ((h, nm) :: wsOf r).filter _
        rw [ih, List.filter_cons, if_pos (decide_eq_true c)]
    · rw [List.filter_cons, if_neg (by rw [decide_eq_false c]; simp)]
      cases nm with
      | none => exact ih
      | some nm =>
        show wsOf (r.filter _) = ((h, nm) :: wsOf r).filter _
        rw [ih, List.filter_cons, if_neg (by rw [decide_eq_false c]; simp)]
theorem spOf_mem (l : List It') (t : Int) : t ∈ spOf l ↔ (t, none) ∈ l := by
  unfold spOf
  rw [List.mem_filterMap]
  constructor
  · rintro ⟨⟨h, nm⟩, hi, e⟩
    cases nm with
    | none =>
      injection e with e
      rw [← e]
      exact hi
    | some _ => cases e
  · intro h
    exact ⟨_, h, rfl⟩
/-- what is told up to told, then from told up to m: what is told up to m -/
theorem told_perm {told m : Int} (h : told ≤ m) (l : List It') : ((l.filter fun i => decide (i.1 < told)) ++ (l.filter fun i => decide (told ≤ i.1) && decide (i.1 < m))).Perm (l.filter fun i => decide (i.1 < m)) := by
  induction l with
  | nil => exact List.Perm.refl _
  | cons x r ih =>
    rw [List.filter_cons, List.filter_cons, List.filter_cons]
    by_cases c1 : x.1 < told
    · have c2 : ¬ told ≤ x.1 := by omega
      have c3 : x.1 < m := by omega
      rw [if_pos (decide_eq_true c1), if_neg (by rw [decide_eq_false c2]; simp), if_pos (decide_eq_true c3)]
      exact ih.cons x
    · have c2 : told ≤ x.1 := by omega
      by_cases c3 : x.1 < m
      · rw [if_neg (by rw [decide_eq_false c1]; simp), if_pos (by rw [decide_eq_true c2, decide_eq_true c3]; rfl), if_pos (decide_eq_true c3)]
        exact List.perm_middle.trans (ih.cons x)
      · rw [if_neg (by rw [decide_eq_false c1]; simp), if_neg (by rw [decide_eq_false c3]; simp), if_neg (by rw [decide_eq_false c3]; simp)]
        exact ih
theorem wsOf_append (a b : List It') : wsOf (a ++ b) = wsOf a ++ wsOf b := List.filterMap_append ..
theorem spOf_append (a b : List It') : spOf (a ++ b) = spOf a ++ spOf b := List.filterMap_append ..
/-- the end of a run of these things up to m -/
def FIN (rows : List RowD) (its : List It') (g : Bool) (s : List (Int × Str)) (m : Int) : St := fin (parcelsIn rows s g) (spOf its) m
theorem sp_same {its : List It'} {sp : List Int} {m : Int} (h : sp.Perm (spOf (its.filter fun i => decide (i.1 < m)))) : ∀ t, t < m → (t ∈ sp ↔ t ∈ spOf its) := fun t ht => by
  rw [h.mem_iff, spOf_mem, spOf_mem, List.mem_filter]
  exact ⟨fun h => h.1, fun h => ⟨h, decide_eq_true ht⟩⟩
theorem sp_all {its : List It'} {sp : List Int} (h : sp.Perm (spOf its)) (m : Int) : ∀ t, t < m → (t ∈ sp ↔ t ∈ spOf its) := fun t _ => h.mem_iff
/-- strings of the rows -/
theorem step_names {js : List Job} {sp : List Int} {u : Int} {st : St} (hn : ∀ j ∈ js, PySem.PyData.strOk j.m.name = true) (h : ∀ r ∈ st.rows, r.Ok) : ∀ r ∈ (step js sp u st).rows, r.Ok := by
  unfold step
  split
  · exact h
  · split
    · exact h
    · rename_i j q
      have hj := hn j (pick_some q).1
      have key : ∀ (a b : Int) (w : Str), PySem.PyData.strOk w = true → ∀ r ∈ st.rows ++ [⟨a, b, j.m.name, j.place, w⟩], r.Ok := fun a b w hw r hr => by
        rcases List.mem_append.mp hr with hr | hr
        · exact h r hr
        · rw [List.mem_singleton.mp hr]
          exact ⟨hj, hw⟩
      split <;> split <;> exact key _ _ _ (by decide +kernel)
theorem iter_names {js : List Job} {sp : List Int} {u : Int} (hn : ∀ j ∈ js, PySem.PyData.strOk j.m.name = true) : ∀ (n : Nat) {st : St}, (∀ r ∈ st.rows, r.Ok) → ∀ r ∈ (iter js sp u n st).rows, r.Ok
  | 0, _, h => h
  | n + 1, _, h => iter_names hn n (step_names hn h)
theorem iter_reach {js : List Job} {sp : List Int} {u : Int} (hm : ∀ j ∈ js, 1 ≤ j.m.most) : ∀ (n : Nat) {st : St}, Reach js sp u st → Reach js sp u (iter js sp u n st)
  | 0, _, h => h
  | n + 1, st, h => iter_reach hm n (by
    by_cases c : u ≤ st.hour
    · rw [step_end c]
      exact h
    · exact h.next hm (by omega))
theorem parcels_ok {rows : List RowD} (hr : RowsOk rows) (s : List (Int × Str)) (g : Bool) : (∀ j ∈ parcelsIn rows s g, PySem.PyData.strOk j.m.name = true) ∧ ∀ j ∈ parcelsIn rows s g, 1 ≤ j.m.most :=
  ⟨fun j hj => (hr.ok _ (parcels_msg j hj)).name.ok, fun j hj => (hr.ok _ (parcels_msg j hj)).most.1⟩
theorem fin_ok {rows : List RowD} (hr : RowsOk rows) (its : List It') (s : List (Int × Str)) (g : Bool) (m : Int) : (∀ r ∈ (FIN rows its g s m).rows, r.Ok) ∧ (FIN rows its g s m).rows.length ≤ 2 * (parcelsIn rows s g).length + (spOf its).length + 1 :=
  ⟨iter_names (parcels_ok hr s g).1 1000 (fun _ h => nomatch h), (iter_reach (parcels_ok hr s g).2 1000 (Reach.start _ _ _)).rows⟩
theorem FIN_goes {rows : List RowD} (hr : RowsOk rows) (its : List It') (g : Bool) {s1 s2 : List (Int × Str)} {u1 u2 : Int} (hu : u1 ≤ u2) (h1 : SortedOf s1 ((wsOf its).filter fun w => decide (w.1 < u1))) (h2 : SortedOf s2 ((wsOf its).filter fun w => decide (w.1 < u2))) :
    Goes (FIN rows its g s1 u1).rows (FIN rows its g s2 u2).rows := by
  obtain ⟨r, e, hr2⟩ := sorted_prefix (u := u1) h1 h2 (by
    rw [List.filter_filter]
    have : ((wsOf its).filter fun w => decide (w.1 < u1)) = (wsOf its).filter fun a => decide (a.1 < u1) && decide (a.1 < u2) := by
      refine List.filter_congr fun w _ => ?_
      by_cases c : w.1 < u1
      · rw [decide_eq_true c, decide_eq_true (by omega : w.1 < u2)]; rfl
      · rw [decide_eq_false c]; rfl
    rw [← this])
  obtain ⟨m1, m2⟩ := parcels_more rows s1 r g u1 hr2
  unfold FIN
  rw [e]
  exact fin_goes hu (parcels_keys hr.ranks _ g) m1 m2
theorem FIN_neg (rows : List RowD) (its : List It') (g : Bool) (s : List (Int × Str)) {u : Int} (h : u ≤ 0) : (FIN rows its g s u).rows = [] := by
  unfold FIN fin
  rw [iter_end (show u ≤ st0.hour from h)]
  rfl
theorem jobsD_okd {rows : List RowD} (hr : RowsOk rows) (s : List (Int × Str)) (g : Bool) (E : List Int → Option Int) {k : Nat} : ∀ d ∈ jobsD (parcelsIn rows s g) E, Okd (k + 1) d := fun d hd => by
  obtain ⟨j, hj, rfl⟩ := List.mem_map.mp hd
  have hn := (parcels_ok hr s g).1 j hj
  refine Okd.tuple (okd_cons (.str hn) (okd_cons (.int _) (okd_cons (.int _) (okd_cons (.int _) (okd_cons (.int _) (okd_cons (.int _) (okd_cons ?_ okd_nil)))))))
  cases E j.key with
  | none => exact .none
  | some i => exact .int i
end K57
set_option Elab.async false
set_option linter.all false
set_option maxRecDepth 100000
set_option maxHeartbeats 4000000
namespace K57
open PySem L2 Pw
/-- what stands beside the lines -/
structure CtxAt (K : PySem.W.Frag) (H : Hp) (t ca TL HL b1 bn1 b2 bn2 : Addr) (ms1 ms2 : List (Addr × RowD)) (its : List It') (hs : List Int) (n : Nat) : Prop where
  tape : Tape H t ca n
  things : LD H TL (its.map itD)
  hours : H HL = some (.lst (hs.map V.int))
  u1 : BusAt K H b1 bn1 ms1
  u2 : BusAt K H b2 bn2 ms2
  tabs : LamX.Tabs (TT K) H
def keepl (TL HL b1 bn1 b2 bn2 : Addr) (ms1 ms2 : List (Addr × RowD)) : List Addr := TL :: HL :: ((b1 :: bn1 :: ms1.map (·.1)) ++ (b2 :: bn2 :: ms2.map (·.1)))
section
variable {K : PySem.W.Frag} {H H' : Hp} {t ca TL HL b1 bn1 b2 bn2 : Addr} {ms1 ms2 : List (Addr × RowD)} {its : List It'} {hs : List Int} {n m : Nat}
theorem CtxAt.kp {g : Bool} {S : List Addr} (c : CtxAt K H t ca TL HL b1 bn1 b2 bn2 ms1 ms2 its hs n) (k : Kg g S H H') (h : ∀ y ∈ keepl TL HL b1 bn1 b2 bn2 ms1 ms2, y ∉ S) (t' : Tape H' t ca m) (tb : LamX.Tabs (TT K) H') : CtxAt K H' t ca TL HL b1 bn1 b2 bn2 ms1 ms2 its hs m :=
  ⟨t', c.things.kp k (h _ (by simp [keepl])), k.lst c.hours (h _ (by simp [keepl])), c.u1.kp k (fun y hy => h y (List.mem_cons_of_mem _ (List.mem_cons_of_mem _ (List.mem_append.mpr (.inl hy))))), c.u2.kp k (fun y hy => h y (List.mem_cons_of_mem _ (List.mem_cons_of_mem _ (List.mem_append.mpr (.inr hy))))), tb⟩
theorem CtxAt.kp0 (c : CtxAt K H t ca TL HL b1 bn1 b2 bn2 ms1 ms2 its hs n) (k : Kp [] H H') : CtxAt K H' t ca TL HL b1 bn1 b2 bn2 ms1 ms2 its hs n := c.kp k (fun _ _ => n0) (c.tape.kp0 k) (k.tabs c.tabs)
theorem CtxAt.known (c : CtxAt K H t ca TL HL b1 bn1 b2 bn2 ms1 ms2 its hs n) : ∀ y ∈ t :: ca :: keepl TL HL b1 bn1 b2 bn2 ms1 ms2, H y ≠ none := by
  intro y hy
  rcases List.mem_cons.mp hy with rfl | hy
  · obtain ⟨_, _, _, e, _⟩ := c.tape.ex
    rw [e]; simp
  rcases List.mem_cons.mp hy with rfl | hy
  · obtain ⟨_, _, _, _, e, _⟩ := c.tape.ex
    rw [e]; simp
  unfold keepl at hy
  rcases List.mem_cons.mp hy with rfl | hy
  · obtain ⟨_, e, _⟩ := c.things.ex
    rw [e]; simp
  rcases List.mem_cons.mp hy with rfl | hy
  · rw [c.hours]; simp
  rcases List.mem_append.mp hy with hy | hy
  · exact c.u1.known y hy
  · exact c.u2.known y hy
theorem CtxAt.f1 (c : CtxAt K H t ca TL HL b1 bn1 b2 bn2 ms1 ms2 its hs n) : ∀ y ∈ b1 :: bn1 :: ms1.map (·.1), y ∈ keepl TL HL b1 bn1 b2 bn2 ms1 ms2 := fun y hy => List.mem_cons_of_mem _ (List.mem_cons_of_mem _ (List.mem_append.mpr (.inl hy)))
theorem CtxAt.f2 (c : CtxAt K H t ca TL HL b1 bn1 b2 bn2 ms1 ms2 its hs n) : ∀ y ∈ b2 :: bn2 :: ms2.map (·.1), y ∈ keepl TL HL b1 bn1 b2 bn2 ms1 ms2 := fun y hy => List.mem_cons_of_mem _ (List.mem_cons_of_mem _ (List.mem_append.mpr (.inr hy)))
end
def rfoot (x : LineV) (ps : List Par) : List Addr := x.mv :: x.rw :: (ps.map (·.a) ++ ps.map (·.m))
section
variable {K : PySem.W.Frag} {H H' : Hp} {x : LineV} {ps : List Par} {st : St}
theorem RanAt.kp {g : Bool} {S : List Addr} (r : RanAt K H x ps st) (k : Kg g S H H') (h : ∀ y ∈ rfoot x ps, y ∉ S) : RanAt K H' x ps st :=
  ⟨k.lst r.m (h _ (by simp [rfoot])), r.p.kp k fun p hp => ⟨h _ (by unfold rfoot; exact List.mem_cons_of_mem _ (List.mem_cons_of_mem _ (List.mem_append.mpr (.inl (List.mem_map.mpr ⟨p, hp, rfl⟩))))), h _ (by unfold rfoot; exact List.mem_cons_of_mem _ (List.mem_cons_of_mem _ (List.mem_append.mpr (.inr (List.mem_map.mpr ⟨p, hp, rfl⟩)))))⟩, r.r.kp k (h _ (by simp [rfoot]))⟩
theorem RanAt.kp0 {g : Bool} (r : RanAt K H x ps st) (k : Kg g [] H H') : RanAt K H' x ps st := r.kp k fun _ _ => n0
theorem RanAt.objs (r : RanAt K H x ps st) : ∀ y ∈ rfoot x ps, ∃ o, H y = some o ∧ ∀ d, o ≠ .dK d := by
  intro y hy
  unfold rfoot at hy
  rcases List.mem_cons.mp hy with rfl | hy
  · exact ⟨_, r.m, fun d z => nomatch z⟩
  rcases List.mem_cons.mp hy with rfl | hy
  · obtain ⟨_, e, _⟩ := r.r.ex
    exact ⟨_, e, fun d z => nomatch z⟩
  rcases List.mem_append.mp hy with hy | hy
  · obtain ⟨p, hp, rfl⟩ := List.mem_map.mp hy
    obtain ⟨d, e⟩ := (r.p p hp).1
    exact ⟨_, e, fun d z => nomatch z⟩
  · obtain ⟨p, hp, rfl⟩ := List.mem_map.mp hy
    obtain ⟨d, e⟩ := (r.p p hp).2
    exact ⟨_, e, fun d z => nomatch z⟩
theorem RanAt.known (r : RanAt K H x ps st) : ∀ y ∈ rfoot x ps, H y ≠ none := fun y hy e => by
  obtain ⟨o, h, _⟩ := r.objs y hy
  rw [e] at h
  cases h
theorem RanAt.nt {t ca : Addr} {n : Nat} (r : RanAt K H x ps st) (T : Tape H t ca n) : ∀ y ∈ rfoot x ps, y ≠ t := fun y hy e => by
  obtain ⟨o, h, no⟩ := r.objs y hy
  obtain ⟨_, _, _, h1, _⟩ := T.ex
  rw [e, h1] at h
  injection h with h
  exact no _ h.symm
end
theorem SortedOf.perm {s w w' : List (Int × Str)} (h : SortedOf s w) (p : w.Perm w') : SortedOf s w' := ⟨h.1.trans p, h.2⟩
theorem itD_inv {H : Hp} {v : V} {i : It'} (h : DT H v (itD i)) : ∃ a xs, v = .ref a ∧ H a = some (.tup (.int i.1 :: xs)) := by
  obtain ⟨z, nm⟩ := i
  cases nm with
  | none =>
    obtain ⟨a, xs, rfl, ha, h1⟩ := DT.tup_inv (show DT H v (.tuple [.int z]) from h)
    obtain ⟨v1, w1, rfl, d1, _⟩ := h1.cons_inv
    obtain rfl := d1.int_inv
    exact ⟨a, _, rfl, ha⟩
  | some nm =>
    obtain ⟨a, xs, rfl, ha, h1⟩ := DT.tup_inv (show DT H v (.tuple [.int z, .str nm]) from h)
    obtain ⟨v1, w1, rfl, d1, _⟩ := h1.cons_inv
    obtain rfl := d1.int_inv
    exact ⟨a, _, rfl, ha⟩
def spLaw (K : PySem.W.Frag) : Sp := fun vs H Q _ => ∃ (a : Addr) (ns : List Int), vs = [.ref a] ∧ SqL K H a (ns.map V.int) ∧ ns.length ≤ 63 ∧ LamX.Tabs (TT K) H ∧ ∀ H', Q (.bl true) H'
section
variable {P : Program} {w : World} {K : PySem.W.Frag} {mg : Str → Option Value} {base : Heap}
-- slots: 0 script, 1 tape(cell), 2 turn, 3 rows, 4 far(cell), 5 moment(cell), 6 things, 7 shut, 8 before, 9 late, 10 wire, 11 hours, 12 told(cell), 13 once, 14 found, 15 called(own), 16 k(own), 17 one(own)
theorem ok_law (T : Txt K mg) (TB : LamX.TabB base mg (He.cT K fr).1 (He.cT K fr).2) {fd : FuncData} (F : FunD K "law" "law" (defArgs s_law) (defBody s_law) (defScope s_law) [] [] (He.ga K "law") fd) : FnOk P w K mg base CX0 7 (He.ga K "law") fd ["script"] (spLaw K) := by
  obtain ⟨_, G_Line___init__, _, _, kb_Line___init__, gl⟩ := ok_Line___init__ (P := P) (w := w) (base := base) T
  obtain ⟨_, G_Line_jobs, b_Line_jobs⟩ := ok_Line_jobs (P := P) (w := w) (base := base) T
  obtain ⟨_, G_Line_now, b_Line_now⟩ := ok_Line_now (P := P) (w := w) (base := base) T
  obtain ⟨_, G_Line_run, b_Line_run⟩ := ok_Line_run (P := P) (w := w) (base := base) T TB
  obtain ⟨_, G_Line_sendings, b_Line_sendings⟩ := ok_Line_sendings (P := P) (w := w) (base := base) T
  obtain ⟨_, G__law_bus, b__law_bus⟩ := ok_law_bus (P := P) (w := w) (base := base) T
  obtain ⟨_, G__law_draw, b__law_draw⟩ := ok_law_draw (P := P) (w := w) (base := base) T
  obtain ⟨_, G__law_goes_on, b__law_goes_on⟩ := ok_law_goes_on (P := P) (w := w) (base := base) T
  obtain ⟨_, G__law_pick, b__law_pick⟩ := ok_law_pick (P := P) (w := w) (base := base) T
  obtain ⟨_, G__law_rows, b__law_rows⟩ := ok_law_rows (P := P) (w := w) (base := base) T
  obtain ⟨_, G__law_tape, b__law_tape⟩ := ok_law_tape (P := P) (w := w) (base := base) T
  obtain ⟨_, G__law_told_to, b__law_told_to⟩ := ok_law_told_to (P := P) (w := w) (base := base) T
  obtain ⟨_, G__law_wishes, b__law_wishes⟩ := ok_law_wishes (P := P) (w := w) (base := base) T
  refine F.ok sc_law (fun vs H Q E h => ?_) (fun cdv A outer s H vs Q E hr h => ?_)
  · obtain ⟨a, ns, rfl, _⟩ := h
    rfl
  · obtain ⟨a, ns, rfl, hS, hn, ht, k⟩ := h
    refine ⟨_, PSs.nox (pss_cons (ps_set (i := 1) sc_law.nd rfl (Or.inr rfl) (pe_call G__law_tape (hr.mono (by decide)) rfl T.g__law_tape T.k__law_tape b__law_tape .nil pass0 (pa_cons (pv 0) pa_nil)))
      (pss_cons (ps_for PassesOwn.never rfl (pi_range1 rfl T.b_range (pa_cons pe_int pa_nil)) (pg_name (i := 2) sc_law.nd rfl (Or.inl rfl))
          (pss_cons (ps_asg (pe_tup (pa_cons (pe_call G__law_rows (hr.mono (by decide)) rfl T.g__law_rows T.k__law_rows b__law_rows .nil pass0 (pa_cons (pv 1) (pa_cons (pe_op op_add pe_int (pe_call G__law_draw (hr.mono (by decide)) rfl T.g__law_draw T.k__law_draw b__law_draw .nil pass0 (pa_cons (pv 1) (pa_cons pe_int pa_nil)))) (pa_cons pe_int (pa_cons pe_int pa_nil))))) (pa_cons (pe_call G__law_pick (hr.mono (by decide)) rfl T.g__law_pick T.k__law_pick b__law_pick .nil pass0 (pa_cons (pv 1) (pa_cons (pe_lst (pa_cons pe_int (pa_cons pe_int (pa_cons (pe_op op_pow pe_int pe_int) (pa_cons (pe_op op_pow pe_int pe_int) pa_nil))))) pa_nil))) pa_nil))) (pg_tup rfl (pgs_cons (pg_name (i := 3) sc_law.nd rfl (Or.inl rfl)) (pgs_cons (pg_name (i := 4) sc_law.nd rfl (Or.inr rfl)) pgs_nil))))
          (pss_cons (ps_setLc (i := 6) (own := [("moment", 5), ("called", 15)]) rfl sc_law.nd rfl rfl (sw_true rfl rfl rfl (by decide +kernel)) (pi_list (pe_call G__law_wishes (hr.mono (by decide)) rfl T.g__law_wishes T.k__law_wishes b__law_wishes .nil pass0 (pa_cons (pv 1) (pa_cons (pv 3) (pa_cons (pe_call G__law_draw (hr.mono (by decide)) rfl T.g__law_draw T.k__law_draw b__law_draw .nil pass0 (pa_cons (pv 1) (pa_cons pe_int pa_nil))) (pa_cons pe_int pa_nil)))))) (blkOk_by (N := N_law) (sc := defScope s_law) (by decide +kernel)) (fun _ _ _ _ _ => (pg_tupK (n := 2) K rfl rfl (pgs_cons (pg_name (i := 5) sc_law.nd rfl (Or.inl rfl)) (pgs_cons (pg_name (i := 15) sc_law.nd rfl (Or.inl rfl)) pgs_nil)))) (fun _ _ _ _ _ => pts_nil) (fun _ _ _ _ _ => (pe_tup (pa_cons (pe_op op_mulW (pv 5) (pv 4)) (pa_cons (pv 15) pa_nil)))))
          (pss_cons (ps_expr (pe_bm PySem.F.plainAttrs_list PySem.F.slot_list_extend PySem.F.type_list_extend mt_extend (pv 6) (pa_cons (pe_lc (own := [("k", 16)]) rfl sc_law.nd (pi_range1 rfl T.b_range (pa_cons (pe_call G__law_draw (hr.mono (by decide)) rfl T.g__law_draw T.k__law_draw b__law_draw .nil pass0 (pa_cons (pv 1) (pa_cons pe_int pa_nil))) pa_nil)) (blkOk_by (N := N_law) (sc := defScope s_law) (by decide +kernel)) (fun _ _ _ _ _ => (pg_name (i := 16) sc_law.nd rfl (Or.inl rfl))) (fun _ _ _ _ _ => pts_nil) (fun _ _ _ _ _ => (pe_tup (pa_cons (pe_op op_mulW (pe_call G__law_draw (hr.mono (by decide)) rfl T.g__law_draw T.k__law_draw b__law_draw .nil pass0 (pa_cons (pv 1) (pa_cons pe_int pa_nil))) (pv 4)) pa_nil)))) pa_nil)))
          (pss_cons (ps_par (i := 7) (j := 8) (by rfl) sc_law.nd rfl rfl (by decide) rfl rfl (pa_cons (pe_cmpR (op_gt) (pe_call G__law_draw (hr.mono (by decide)) rfl T.g__law_draw T.k__law_draw b__law_draw .nil pass0 (pa_cons (pv 1) (pa_cons pe_int pa_nil))) pe_int (nomark _)) (pa_cons (pe_lst pa_nil) pa_nil)) (by rfl))
          (pss_cons (ps_par (i := 9) (j := 10) (by rfl) sc_law.nd rfl rfl (by decide) rfl rfl (pa_cons (pe_makeK T.mk_Line G_Line___init__ (hr.mono (by decide)) rfl T.g_Line kb_Line___init__ pass0 (pa_cons (pe_call G__law_bus (hr.mono (by decide)) rfl T.g__law_bus T.k__law_bus b__law_bus .nil pass0 (pa_cons (pv 3) pa_nil)) pa_nil) (pk_cons (pv 7) pk_nil)) (pa_cons (pe_call G__law_bus (hr.mono (by decide)) rfl T.g__law_bus T.k__law_bus b__law_bus .nil pass0 (pa_cons (pv 3) pa_nil)) pa_nil)) (by rfl))
          (pss_cons (ps_set (i := 11) sc_law.nd rfl (Or.inl rfl) (pe_op op_cat (pe_callB cr_sortedI (by rfl) T.b_sorted (by decide +kernel) (pa_cons (pe_lc (own := [("k", 16)]) rfl sc_law.nd (pi_range1 rfl T.b_range (pa_cons (pe_op op_add pe_int (pe_call G__law_draw (hr.mono (by decide)) rfl T.g__law_draw T.k__law_draw b__law_draw .nil pass0 (pa_cons (pv 1) (pa_cons pe_int pa_nil)))) pa_nil)) (blkOk_by (N := N_law) (sc := defScope s_law) (by decide +kernel)) (fun _ _ _ _ _ => (pg_name (i := 16) sc_law.nd rfl (Or.inl rfl))) (fun _ _ _ _ _ => pts_nil) (fun _ _ _ _ _ => (pe_op op_mulW (pe_call G__law_draw (hr.mono (by decide)) rfl T.g__law_draw T.k__law_draw b__law_draw .nil pass0 (pa_cons (pv 1) (pa_cons pe_int pa_nil))) (pv 4)))) pa_nil)) (pe_lst (pa_cons (pe_op op_mulW pe_int (pv 4)) pa_nil))))
          (pss_cons (ps_set (i := 12) sc_law.nd rfl (Or.inr rfl) (pe_un un_neg pe_int))
          (pss_one (ps_for PassesOwn.never rfl (pi_list (pv 11)) (pg_name (i := 5) sc_law.nd rfl (Or.inr rfl))
            (pss_cons (ps_expr (pe_call G__law_told_to (hr.mono (by decide)) rfl T.g__law_told_to T.k__law_told_to b__law_told_to .nil pass0 (pa_cons (pv 1) (pa_cons (pv 9) (pa_cons (pe_lc (own := [("one", 17)]) rfl sc_law.nd (pi_list (pv 6)) (blkOk_by (N := N_law) (sc := defScope s_law) (by decide +kernel)) (fun _ _ _ _ _ => (pg_name (i := 17) sc_law.nd rfl (Or.inl rfl))) (fun _ _ _ _ _ => (pts_one (pt_chain (op_le) (op_lt) (pv 12) (pe_ix (ix_seqK K rfl) (pv 17) pe_int (fun _ _ => rfl)) (pv 5)))) (fun _ _ _ _ _ => (pv 17))) pa_nil)))))
            (pss_cons (ps_set (i := 12) sc_law.nd rfl (Or.inr rfl) (pe_callB (call_max2 rfl) (by rfl) T.b_max (by decide +kernel) (pa_cons (pv 12) (pa_cons (pv 5) pa_nil))))
            (pss_cons (ps_expr (pe_meth (pv 9) T.cl_Line T.m_Line_run G_Line_run (hr.mono (by decide)) b_Line_run .nil pass0 (pa_cons (pv 5) pa_nil)))
            (pss_cons (ps_set (i := 13) sc_law.nd rfl (Or.inl rfl) (pe_makeK T.mk_Line G_Line___init__ (hr.mono (by decide)) rfl T.g_Line kb_Line___init__ pass0 (pa_cons (pv 10) pa_nil) (pk_cons (pv 7) pk_nil)))
            (pss_cons (ps_expr (pe_call G__law_told_to (hr.mono (by decide)) rfl T.g__law_told_to T.k__law_told_to b__law_told_to .nil pass0 (pa_cons (pv 1) (pa_cons (pv 13) (pa_cons (pv 6) pa_nil)))))
            (pss_cons (ps_expr (pe_meth (pv 13) T.cl_Line T.m_Line_run G_Line_run (hr.mono (by decide)) b_Line_run .nil pass0 (pa_cons (pv 5) pa_nil)))
            (pss_cons (ps_set (i := 14) sc_law.nd rfl (Or.inl rfl) (pe_meth0 (pv 9) T.cl_Line T.m_Line_sendings G_Line_sendings (hr.mono (by decide)) b_Line_sendings .nil pass0))
            (pss_cons (ps_if (PW.pt (pw_or (pt_cmpR (op_neD hr.units) (pv 14) (pe_meth0 (pv 13) T.cl_Line T.m_Line_sendings G_Line_sendings (hr.mono (by decide)) b_Line_sendings .nil pass0) (nomark _)) (pw_or (pt_cmpR (op_neD hr.units) (pe_meth0 (pv 9) T.cl_Line T.m_Line_jobs G_Line_jobs (hr.mono (by decide)) b_Line_jobs .nil pass0) (pe_meth0 (pv 13) T.cl_Line T.m_Line_jobs G_Line_jobs (hr.mono (by decide)) b_Line_jobs .nil pass0) (nomark _)) (pw_or1 (pt_not (pt_val (pe_call G__law_goes_on (hr.mono (by decide)) rfl T.g__law_goes_on T.k__law_goes_on b__law_goes_on .nil pass0 (pa_cons (pv 8) (pa_cons (pv 14) pa_nil)))))))))
                (pss_one (ps_ret pe_bl))
                pss_nil)
            (pss_cons (ps_set (i := 8) sc_law.nd rfl (Or.inl rfl) (pe_callTy call_list_of (by rfl) T.b_list (by decide +kernel) (pa_cons (pv 14) pa_nil)))
            (pss_cons (ps_expr (pe_bm PySem.F.plainAttrs_list PySem.F.slot_list_append PySem.F.type_list_append mt_append (pv 14) (pa_cons pe_non pa_nil)))
            (pss_cons (ps_expr (pe_bm0 PySem.F.plainAttrs_list PySem.F.slot_list_clear PySem.F.type_list_clear mt_clear (pe_meth0 (pv 9) T.cl_Line T.m_Line_jobs G_Line_jobs (hr.mono (by decide)) b_Line_jobs .nil pass0)))
            (pss_one (ps_if (PW.pt (pw_or (pt_cmpR (op_neD hr.units) (pe_meth0 (pv 9) T.cl_Line T.m_Line_sendings G_Line_sendings (hr.mono (by decide)) b_Line_sendings .nil pass0) (pv 8) (nomark _)) (pw_or (pt_cmpR (op_neD hr.units) (pe_meth0 (pv 9) T.cl_Line T.m_Line_jobs G_Line_jobs (hr.mono (by decide)) b_Line_jobs .nil pass0) (pe_meth0 (pv 13) T.cl_Line T.m_Line_jobs G_Line_jobs (hr.mono (by decide)) b_Line_jobs .nil pass0) (nomark _)) (pw_or1 (pt_cmpR (op_ne) (pe_meth0 (pv 9) T.cl_Line T.m_Line_now G_Line_now (hr.mono (by decide)) b_Line_now .nil pass0) (pv 5) (nomark _))))))
              (pss_one (ps_ret pe_bl))
              pss_nil)))))))))))))))))))))))
      (pss_one (ps_ret pe_bl)))), ?_⟩
    refine ⟨_, rfl, a, ns, rfl, hS, hn, fun t ca H1 ht0 hca0 k1 T1 => ?_⟩
    refine ⟨4, rfl, by decide, by decide, ?_⟩
    refine for_it walk_range (fun i σ' H' => (∃ x2 x3 x4 x5 x6 x7 x8 x9 x10 x11 x12 x13 x14, σ' = [some (.ref a), some (.ref t), x2, x3, x4, x5, x6, x7, x8, x9, x10, x11, x12, x13, x14, none, none, none]) ∧ Tape H' t ca (3000 * i) ∧ LamX.Tabs (TT K) H') ?_ (fun _ _ _ _ _ => trivial) ?_ ?_
    · exact ⟨⟨_, _, _, _, _, _, _, _, _, _, _, _, _, rfl⟩, T1, k1.tabs ht⟩
    · rintro i y σ' Hs Hs' hi ⟨⟨x2, x3, x4, x5, x6, x7, x8, x9, x10, x11, x12, x13, x14, rfl⟩, Ts, ts⟩ ⟨rfl, rfl⟩
      have hi4 : i < 4 := hi
      have n0' : 3000 * i ≤ 12000 := by omega
      generalize hN : 3000 * i = N at Ts n0'
      -- the rows, the unit
      refine ⟨_, rfl, _, rfl, t, ca, _, _, rfl, Ts, by decide, by decide, by omega, fun d1 H2 d10 d11 k2 T2 => ?_⟩
      refine ⟨_, _, rfl, rfl, t, ca, _, _, _, _, rfl, T2, by omega, by omega, by decide, by decide, by decide, by decide, by omega, fun RL rows H3 hRL0 k3 T3 hRL hrl hrows => ?_⟩
      refine ⟨_, rfl, _, _, rfl, rfl, ⟨by decide, by decide, by decide⟩, _, _, rfl, rfl, ⟨by decide, by decide, by decide⟩, szb rfl, fun p hp => ?_⟩
      generalize e : upd _ p _ = H4
      obtain ⟨e4, k4⟩ := newF e hp
      refine ⟨t, ca, p, _, _, rfl, T3.kp0 k4, e4, (by decide : 1 ≤ 4), (by decide : 4 ≤ 1000000), by omega, fun ip vp H5 hvp k5 T5 => ?_⟩
      obtain ⟨far, rfl, far1, far2⟩ : ∃ far : Int, vp = .int far ∧ 1 ≤ far ∧ far ≤ 1000000000 := by
        have m := List.mem_of_getElem? hvp
        simp only [List.mem_cons, List.not_mem_nil, or_false] at m
        rcases m with rfl | rfl | rfl | rfl
        · exact ⟨_, rfl, by decide, by decide⟩
        · exact ⟨_, rfl, by decide, by decide⟩
        · exact ⟨_, rfl, by decide, by decide⟩
        · exact ⟨_, rfl, by decide, by decide⟩
      refine ⟨szb rfl, fun q hq => ?_⟩
      generalize e : upd _ q _ = H6
      obtain ⟨e6, k6⟩ := newF e hq
      have hRLt : RL ≠ t := by
        obtain ⟨vs, hv, _⟩ := hRL.ex
        exact T3.nl hv
      have hRL6 := ((hRL.kp k4 n0).kp k5 (n1 hRLt)).kp k6 n0
      have ks6 : Kp [t] Hs' H6 := (((k2.trans k3).trans k4.any).trans k5).trans k6.any
      have hrl8 : rows.length ≤ 8 ∧ 1 ≤ rows.length := by omega
      refine ⟨q, _, rfl, SqT.of e6, rfl, _, _, rfl, _, _, rfl, rfl, ?_⟩
      -- the things
      refine ⟨_, rfl, _, rfl, _, rfl, t, ca, _, _, rfl, T5.kp0 k6, by decide, by decide, by omega, fun d2 H7 d20 d21 k7 T7 => ?_⟩
      refine ⟨t, ca, RL, _, _, rows, _, rfl, T7, hRL6.kp k7 (n1 hRLt), by omega, by omega, by omega, by omega, by decide, by decide, by omega, fun WL ws0 H8 hWL0 k8 T8 hWL hwl hws => ?_⟩
      obtain ⟨wvs, ewl, hwv⟩ := hWL.ex
      have hwvl := hwv.len
      rw [List.length_map] at hwvl
      refine ⟨WL, rfl, ⟨_, SqL.of ewl⟩, fun TL hTL => ?_⟩
      refine lc_it (walk_list (K := K) (xs := wvs)) (fun j H' => LD H' TL ((ws0.take j).map fun w => itD (w.1 * far, some w.2)) ∧ Kp [] H8 H') ?_ (fun _ H' _ h => SqL.of (h.2.lst ewl n0)) ?_ ?_
      · generalize e : upd _ TL _ = H9
        obtain ⟨e9, k9⟩ := newF e hTL
        exact ⟨⟨_, e9, .nil⟩, k9⟩
      · rintro j y H9 H10 hj ⟨hT9, k9⟩ ⟨rfl, hy⟩
        have hj2 : j < ws0.length := by omega
        obtain ⟨d, hd, hdt⟩ := (hwv.kp k9).get hy
        rw [List.getElem?_map, List.getElem?_eq_getElem hj2] at hd
        obtain rfl : wishD ws0[j] = d := by simpa using hd
        have htk : ws0.take (j + 1) = ws0.take j ++ [ws0[j]] := List.take_succ_eq_append_getElem hj2
        have hw := hws _ (List.getElem_mem hj2)
        generalize ws0[j] = w1 at hdt htk hw
        obtain ⟨ta, xs, rfl, hta, hx⟩ := hdt.tup_inv
        obtain ⟨v1, w1', rfl, g1, hx2⟩ := hx.cons_inv
        obtain ⟨v2, w2', rfl, g2, hx3⟩ := hx2.cons_inv
        obtain rfl := hx3.nil_inv
        obtain rfl := g1.int_inv
        obtain rfl := g2.str_inv
        refine ⟨ta, _, rfl, SqT.of hta, rfl, _, _, rfl, _, _, rfl, rfl, rfl, ?_⟩
        refine ⟨_, rfl, _, rfl, _, _, rfl, rfl, wide_mul (a := 8) (b := 32) (by omega) (by omega) (by decide) (by decide) (by decide), _, rfl, szb rfl, fun r hr => ?_⟩
        generalize e : upd _ r _ = H11
        obtain ⟨e11, k11⟩ := newF e hr
        obtain ⟨us, eT, hus⟩ := (hT9.kp k11 n0).ex
        have hul := hus.len
        rw [List.length_map, List.length_take] at hul
        refine ⟨us, eT, by rw [hul]; exact small1000 (by omega), ?_⟩
        generalize e : upd _ TL _ = H12
        obtain ⟨e12, k12⟩ := putL e eT
        refine ⟨⟨_, e12, ?_⟩, (k9.trans k11).mut k12 hTL⟩
        rw [htk, List.map_append]
        exact (hus.kp k12).app (.one (.tup (k12.tup _ _ e11) (.cons (.int _) (.cons (.str _) .nil))))
      · rintro H9 ⟨hT9, k9⟩
        rw [hwvl, List.take_length] at hT9
        have ks9 : Kp [t] Hs' H9 := ((ks6.trans k7).trans k8).trans k9.any
        have T9 := T8.kp0 k9
        have hTLt : TL ≠ t := by
          obtain ⟨vs, hv, _⟩ := hT9.ex
          exact T9.nl hv
        have hTLca : TL ≠ ca := by
          obtain ⟨_, _, _, _, h1, _⟩ := T8.ex
          exact (ne_of_none h1 hTL).symm
        have hRL9 := ((hRL6.kp k7 (n1 hRLt)).kp k8 (n1 hRLt)).kp k9 n0
        obtain ⟨tvs, etl, htv⟩ := hT9.ex
        refine ⟨_, rfl, tyL etl, _, rfl, t, ca, _, _, rfl, T9, by decide, by decide, by omega, fun d3 H10 d30 d31 k10 T10 => ?_⟩
        refine ⟨_, rfl, by omega, by omega, fun D hD => ?_⟩
        have hDt : D ≠ t := by
          obtain ⟨_, _, _, h1, _⟩ := T10.ex
          exact (ne_of_none h1 hD).symm
        have hDca : D ≠ ca := by
          obtain ⟨_, _, _, _, h1, _⟩ := T10.ex
          exact (ne_of_none h1 hD).symm
        refine lc_it walk_range (fun j H' => Tape H' t ca (N + 710 + j) ∧ Kp [t] H10 H' ∧ ∃ tk : List Int, tk.length = j ∧ (∀ z ∈ tk, 0 ≤ z) ∧ LD H' D (tk.map fun z => itD (z, none))) ?_ (fun _ _ _ _ => trivial) ?_ ?_
        · generalize e : upd _ D _ = H11
          obtain ⟨e11, k11⟩ := newF e hD
          exact ⟨(T10.kp0 k11).le (by omega), k11.any, [], rfl, (fun _ h => nomatch h), ⟨_, e11, .nil⟩⟩
        · rintro j y H11 H12 hj ⟨T11, k11, tk, htl, htk, hD11⟩ ⟨rfl, rfl⟩
          refine ⟨rfl, _, rfl, t, ca, _, _, rfl, T11, by decide, by decide, by omega, fun z H13 z0 z1 k13 T13 => ?_⟩
          refine ⟨_, rfl, _, _, rfl, rfl, wide_mul (a := 8) (b := 32) (by omega) (by omega) (by decide) (by decide) (by decide), szb rfl, fun r hr => ?_⟩
          generalize e : upd _ r _ = H14
          obtain ⟨e14, k14⟩ := newF e hr
          obtain ⟨us, eT, hus⟩ := ((hD11.kp k13 (n1 hDt)).kp k14 n0).ex
          have hul := hus.len
          rw [List.length_map] at hul
          refine ⟨us, eT, by rw [hul]; exact small1000 (by omega), ?_⟩
          generalize e : upd _ D _ = H15
          obtain ⟨e15, k15⟩ := putL e eT
          refine ⟨((T13.kp0 k14).kp k15 (n1 hDt.symm) (n1 hDca.symm)).le (by omega), ((k11.trans k13).trans k14.any).mut k15 hD, tk ++ [z * far], by rw [List.length_append, htl]; rfl, fun q hq => ?_, ⟨_, e15, ?_⟩⟩
          · rcases List.mem_append.mp hq with hq | hq
            · exact htk q hq
            · rw [List.mem_singleton.mp hq]
              exact Int.mul_nonneg z0 (by omega)
          · rw [List.map_append]
            exact (hus.kp k15).app (.one (.tup (k15.tup _ _ e14) (.cons (.int _) .nil)))
        · rintro H11 ⟨T11, k11, tk, htl, htk, hD11⟩
          obtain ⟨dvs, ed, hdv⟩ := hD11.ex
          have etl11 := k11.lst (k10.lst etl (n1 hTLt)) (n1 hTLt)
          have htvl := htv.len
          have hdvl := hdv.len
          rw [List.length_map] at htvl hdvl
          refine ⟨TL, D, tvs, dvs, rfl, rfl, etl11, ed, Nat.le_of_lt (small1000 (by omega)), ?_⟩
          generalize e : upd _ TL _ = H12
          obtain ⟨e12, k12⟩ := putL e etl11
          have hTD : TL ≠ D := ne_of_none (k10.lst etl (n1 hTLt)) hD
          have hTL0 : Hs' TL = none := ((ks6.trans k7).trans k8).free (n1 hTLt) hTL
          have ks12 : Kp [t] Hs' H12 := ((ks9.trans k10).trans k11).mut k12 hTL0
          have T12 := T11.kp k12 (n1 hTLt.symm) (n1 hTLca.symm)
          generalize hits : (ws0.map fun w => (w.1 * far, some w.2)) ++ tk.map (fun z => (z, (none : Option Str))) = its
          have hTL12 : LD H12 TL (its.map itD) := by
            refine ⟨_, e12, ?_⟩
            rw [← hits, List.map_append, List.map_map, List.map_map]
            exact (((htv.kp k10).kp k11).kp k12).app (hdv.kp k12)
          have hitl : its.length ≤ 29 := by
            rw [← hits, List.length_append, List.length_map, List.length_map]
            omega
          have hit0 : ∀ i ∈ its, 0 ≤ i.1 ∧ ∀ nm, i.2 = some nm → nm ∈ rows.map (·.name) := fun i hi => by
            rw [← hits] at hi
            rcases List.mem_append.mp hi with hi | hi
            · obtain ⟨w, hw, rfl⟩ := List.mem_map.mp hi
              obtain ⟨q1, _, q2⟩ := hws w hw
              exact ⟨Int.mul_nonneg q1 (by omega), fun nm e => by injection e with e; rw [← e]; exact q2⟩
            · obtain ⟨z, hz, rfl⟩ := List.mem_map.mp hi
              exact ⟨htk z hz, fun nm e => nomatch e⟩
          have hwsl : (wsOf its).length ≤ 24 := by
            have : wsOf its = ws0.map fun w => (w.1 * far, w.2) := by
              rw [← hits, wsOf_append]
              have z1 : ∀ l : List (Int × Str), wsOf (l.map fun w => (w.1 * far, some w.2)) = l.map fun w => (w.1 * far, w.2) := fun l => by
                unfold wsOf
                rw [List.filterMap_map]
                show List.filterMap (fun w : Int × Str => some (w.1 * far, w.2)) l = _
                exact congrFun List.filterMap_eq_map' l
              have z2 : ∀ l : List Int, wsOf (l.map fun z => (z, (none : Option Str))) = [] := fun l => by
                unfold wsOf
                rw [List.filterMap_map]
                exact List.filterMap_eq_nil_iff.mpr fun _ _ => rfl
              rw [z1, z2, List.append_nil]
            rw [this, List.length_map]
            omega
          have hRL12 : LD H12 RL (rows.map RowD.d) := by
            have hTLR : RL ≠ TL := by
              obtain ⟨_, e, _⟩ := ((hRL6.kp k7 (n1 hRLt)).kp k8 (n1 hRLt)).ex
              exact ne_of_none e hTL
            exact (((hRL9.kp k10 (n1 hRLt)).kp k11 (n1 hRLt)).kp k12 (n1 hTLR))
          -- gate, the lines
          refine ⟨_, rfl, t, ca, _, _, rfl, T12, by decide, by decide, by omega, fun d4 H13 d40 d41 k13 T13 => ?_⟩
          refine ⟨_, _, rfl, rfl, szb rfl, fun B hB => ?_⟩
          generalize e : upd _ B _ = H14
          obtain ⟨e14, k14⟩ := newF e hB
          refine ⟨_, _, rfl, ?_⟩
          generalize hg : decide ((0 : Int) < d4) = g
          have T14 := T13.kp0 k14
          have hRL14 := (hRL12.kp k13 (n1 hRLt)).kp k14 n0
          refine ⟨_, rfl, RL, rows, rfl, hRL14, hrows, by omega, fun H15 b1 bn1 ms1 hf1 k15 hm1 hb1 => ?_⟩
          refine ⟨_, rfl, rfl, rfl, fun ln dx hln hdx hne => ?_⟩
          rw [gl]
          generalize e : upd (upd _ dx _) ln _ = H16
          obtain ⟨e16, k16⟩ := newI e hln hdx hne
          refine ⟨ln, dx, b1, g, by rw [← hg], e16, fun H17 x hxl hxb hxg hxh fA fB fM fR k17 hL17 => ⟨rfl, ?_⟩⟩
          have k1417 : Kp [] H14 H17 := k15.trans (k16.mut k17 hln)
          have hRL17 := hRL14.kp k1417 n0
          refine ⟨_, rfl, RL, rows, rfl, hRL17, hrows, by omega, fun H18 b2 bn2 ms2 hf2 k18 hm2 hb2 => ?_⟩
          refine ⟨_, _, rfl, ?_⟩
          have T18 := T14.kp0 (k1417.trans k18)
          -- the hours
          refine ⟨_, rfl, t, ca, _, _, rfl, T18, by decide, by decide, by omega, fun d5 H19 d50 d51 k19 T19 => ?_⟩
          refine ⟨_, _, rfl, rfl, _, rfl, by omega, by omega, fun HD hHD => ?_⟩
          have hHDt : HD ≠ t := by
            obtain ⟨_, _, _, h1, _⟩ := T19.ex
            exact (ne_of_none h1 hHD).symm
          have hHDca : HD ≠ ca := by
            obtain ⟨_, _, _, _, h1, _⟩ := T19.ex
            exact (ne_of_none h1 hHD).symm
          refine lc_it walk_range (fun j H' => Tape H' t ca (N + 720 + j) ∧ Kp [t] H19 H' ∧ ∃ hk : List Int, hk.length = j ∧ (∀ z ∈ hk, 0 ≤ z ∧ z ≤ 120 * far) ∧ H' HD = some (.lst (hk.map V.int))) ?_ (fun _ _ _ _ => trivial) ?_ ?_
          · generalize e : upd _ HD _ = H20
            obtain ⟨e20, k20⟩ := newF e hHD
            exact ⟨(T19.kp0 k20).le (by omega), k20.any, [], rfl, (fun _ h => nomatch h), e20⟩
          · rintro j y H20 H21 hj ⟨T20, k20, hk, hkl, hkz, eHD⟩ ⟨rfl, rfl⟩
            refine ⟨rfl, _, rfl, t, ca, _, _, rfl, T20, by decide, by decide, by omega, fun z H22 z0 z1 k22 T22 => ?_⟩
            have eHD22 := k22.lst eHD (n1 hHDt)
            refine ⟨_, rfl, _, _, rfl, rfl, wide_mul (a := 8) (b := 32) (by omega) (by omega) (by decide) (by decide) (by decide), _, eHD22, by rw [List.length_map]; exact small1000 (by omega), ?_⟩
            generalize e : upd _ HD _ = H23
            obtain ⟨e23, k23⟩ := putL e eHD22
            refine ⟨(T22.kp k23 (n1 hHDt.symm) (n1 hHDca.symm)).le (by omega), (k20.trans k22).mut k23 hHD, hk ++ [z * far], by rw [List.length_append, hkl]; rfl, fun q hq => ?_, by rw [e23, List.map_append]; rfl⟩
            rcases List.mem_append.mp hq with hq | hq
            · exact hkz q hq
            · rw [List.mem_singleton.mp hq]
              refine ⟨Int.mul_nonneg z0 (by omega), Int.mul_le_mul_of_nonneg_right (by omega) (by omega)⟩
          · rintro H20 ⟨T20, k20, hk, hkl, hkz, eHD⟩
            refine ⟨HD, hk, rfl, SqL.of eHD, fun hs1 S1 hperm hsort hS1 => ?_⟩
            generalize e : upd _ S1 _ = H21
            obtain ⟨e21, k21⟩ := newF e hS1
            refine ⟨_, rfl, _, _, rfl, rfl, wide_mul (a := 8) (b := 32) (by decide) (by omega) (by decide) (by decide) (by decide), szb rfl, fun S2 hS2 => ?_⟩
            generalize e : upd _ S2 _ = H22
            obtain ⟨e22, k22⟩ := newF e hS2
            have hs1l := hperm.length_eq
            refine ⟨S1, S2, _, _, rfl, rfl, k22.lst e21 n0, e22, ?_, fun HL hHL => ?_⟩
            · rw [List.length_map]
              exact Nat.le_of_lt (small1000 (by show hs1.length + 1 ≤ 1000; omega))
            generalize e : upd _ HL _ = H23
            obtain ⟨e23, k23⟩ := newF e hHL
            generalize hhs : hs1 ++ [120 * far] = hs
            have eHL : H23 HL = some (.lst (hs.map V.int)) := by
              rw [e23, ← hhs, List.map_append]
              rfl
            have hhl : hs.length ≤ 6 := by
              rw [← hhs, List.length_append]
              show hs1.length + 1 ≤ 6
              omega
            have hsorted : hs.Pairwise (· ≤ ·) := by
              rw [← hhs]
              refine List.pairwise_append.mpr ⟨hsort, List.pairwise_singleton _ _, fun a ha b hb => ?_⟩
              rw [List.mem_singleton.mp hb]
              exact (hkz a (hperm.mem_iff.mp ha)).2
            have hs0 : ∀ z ∈ hs, 0 ≤ z := fun z hz => by
              rw [← hhs] at hz
              rcases List.mem_append.mp hz with hz | hz
              · exact (hkz z (hperm.mem_iff.mp hz)).1
              · rw [List.mem_singleton.mp hz]
                omega
            have k1823 : Kp [t] H18 H23 := ((k19.trans k20).trans ((k21.trans k22).trans k23).any)
            have hHLt : HL ≠ t := by
              obtain ⟨_, _, _, h1, _⟩ := (T20.kp0 (k21.trans k22)).ex
              exact (ne_of_none h1 hHL).symm
            have hHL0 : H18 HL = none := ((k19.trans k20).trans (k21.trans k22).any).free (n1 hHLt) hHL
            have T23 : Tape H23 t ca (N + 740) := (T20.kp0 ((k21.trans k22).trans k23)).le (by omega)
            refine ⟨_, rfl, ?_⟩
            have k1418 := k1417.trans k18
            have t18 : LamX.Tabs (TT K) H18 := k18.tabs (k1417.tabs (k14.tabs (k13.tabs (ks12.tabs ts))))
            -- what differs from what
            have kn14 : ∀ y ∈ [t, ca, TL], H14 y ≠ none := fun y hy => by
              simp only [List.mem_cons, List.not_mem_nil, or_false] at hy
              rcases hy with rfl | rfl | rfl
              · obtain ⟨_, _, _, e, _⟩ := T14.ex
                rw [e]; simp
              · obtain ⟨_, _, _, _, e, _⟩ := T14.ex
                rw [e]; simp
              · rw [k14.lst (k13.lst e12 (n1 hTLt)) n0]; simp
            have fx : ∀ y ∈ [x.ln, x.asked, x.bad], H15 y = none := fun y hy => by
              have l1 : H15 ln = none := hln
              have nx : ∀ q, H16 q = none → H15 q = none := fun q hq => k16.free0 hq
              simp only [List.mem_cons, List.not_mem_nil, or_false] at hy
              rcases hy with rfl | rfl | rfl
              · rw [hxl]; exact l1
              · exact nx _ fA
              · exact nx _ fB
            have kn15 : ∀ y, H15 y ≠ none → ∀ q ∈ [x.ln, x.asked, x.bad], y ≠ q := fun y hy q hq e => hy (e ▸ fx q hq)
            have up : ∀ y, H14 y ≠ none → H15 y ≠ none := fun y hy e => hy (k15.free0 e)
            have hx17 := hL17.known
            have hxn : ∀ q ∈ [x.ln, x.asked, x.bad], H18 q ≠ none := fun q hq e => hx17 q hq (k18.free0 e)
            have dis : ∀ y ∈ keepl TL HL b1 bn1 b2 bn2 ms1 ms2, y ≠ t ∧ ∀ q ∈ [x.ln, x.asked, x.bad], y ≠ q := fun y hy => by
              unfold keepl at hy
              rcases List.mem_cons.mp hy with rfl | hy
              · exact ⟨hTLt, kn15 _ (up _ (kn14 _ (by simp)))⟩
              rcases List.mem_cons.mp hy with rfl | hy
              · exact ⟨hHLt, fun q hq e => hxn q hq (by rw [← e]; exact hHL0)⟩
              rcases List.mem_append.mp hy with hy | hy
              · refine ⟨fun e => ?_, kn15 _ (hb1.known y hy)⟩
                subst e
                exact kn14 _ (by simp) (hf1 _ hy)
              · have h17 := hf2 y hy
                refine ⟨fun e => ?_, fun q hq e => hx17 q hq (e ▸ h17)⟩
                subst e
                exact kn14 _ (by simp) (k1417.free0 h17)
            have cane : ca ≠ x.asked ∧ ca ≠ x.bad := ⟨kn15 _ (up _ (kn14 _ (by simp))) _ (by simp), kn15 _ (up _ (kn14 _ (by simp))) _ (by simp)⟩
            have tne : ∀ q ∈ [x.ln, x.asked, x.bad], t ≠ q := kn15 _ (up _ (kn14 _ (by simp)))
            have tS : ∀ (l : List Addr), (∀ y ∈ l, y ≠ t) → ∀ y ∈ l, y ∉ [t] := fun l h y hy => n1 (h y hy)
            have dT : ∀ y ∈ keepl TL HL b1 bn1 b2 bn2 ms1 ms2, y ∉ [t] := fun y hy => n1 (dis y hy).1
            have ctx : CtxAt K H23 t ca TL HL b1 bn1 b2 bn2 ms1 ms2 its hs (N + 740) :=
              ⟨T23, (((hTL12.kp k13 (n1 hTLt)).kp k14 n0).kp k1418 n0).kp k1823 (n1 hTLt), eHL, (((hb1.kp (k16.mut k17 hln) (fun _ _ => n0)).kp k18 (fun _ _ => n0))).kp k1823 (fun y hy => dT y (List.mem_cons_of_mem _ (List.mem_cons_of_mem _ (List.mem_append.mpr (.inl hy))))),
                hb2.kp k1823 (fun y hy => dT y (List.mem_cons_of_mem _ (List.mem_cons_of_mem _ (List.mem_append.mpr (.inr hy))))), k1823.tabs t18⟩
            have hL23 : LineAt K H23 x [] [] := (hL17.kp k18 fun _ _ => n0).kp k1823 fun y hy => n1 fun e => tne y hy e.symm
            have hBne : B ≠ x.asked ∧ B ≠ x.bad := ⟨kn15 _ (up _ (by rw [e14]; simp)) _ (by simp), kn15 _ (up _ (by rw [e14]; simp)) _ (by simp)⟩
            have hB23 : LD H23 B [] := by
              have hBt : B ≠ t := by
                obtain ⟨_, _, _, h1, _⟩ := T13.ex
                exact (ne_of_none h1 hB).symm
              exact ⟨[], k1823.lst (k1418.lst e14 n0) (n1 hBt), .nil⟩
            have hstr : ∀ nm ∈ rows.map (·.name), PySem.PyData.strOk nm = true := fun nm h => by
              obtain ⟨r, hr, rfl⟩ := List.mem_map.mp h
              exact (hrows.ok r hr).name.ok
            have hn1 : ms1.map (·.2.name) = rows.map (·.name) := by rw [← hm1, List.map_map]; rfl
            have hn2 : ms2.map (·.2.name) = rows.map (·.name) := by rw [← hm2, List.map_map]; rfl
            have hml1 : ms1.length = rows.length := by rw [← hm1, List.length_map]
            have hml2 : ms2.length = rows.length := by rw [← hm2, List.length_map]
            have hspl : ∀ l : List It', (spOf l).length ≤ l.length := fun l => List.length_filterMap_le ..
            refine ⟨_, rfl, HL, rfl, ⟨_, SqL.of eHL⟩, ?_⟩
            let Pv : Nat → L2.St → Hp → Prop := fun j σ' H' => ∃ (x' : LineV) (ws : List (Int × Str)) (sp : List Int) (B' : Addr) (s1 : List (Int × Str)) (v5 v13 v14 : Option V) (told : Int),
              σ' = [some (.ref a), some (.ref t), some (.int (0 + (i : Int))), some (.ref RL), some (.int far), v5, some (.ref TL), some (.bl g), some (.ref B'), some (.ref x'.ln), some (.ref b2), some (.ref HL), some (.int told), v13, v14, none, none, none] ∧
              CtxAt K H' t ca TL HL b1 bn1 b2 bn2 ms1 ms2 its hs (N + 740 + 200 * j) ∧ (x'.ln = x.ln ∧ x'.bus = b1 ∧ x'.g = g ∧ x'.asked = x.asked ∧ x'.bad = x.bad) ∧ ((told = -1 ∧ x'.hour = 0) ∨ (0 ≤ told ∧ x'.hour = told)) ∧
              (∀ z ∈ hs.drop j, told ≤ z) ∧ LineAt K H' x' ws sp ∧ ws.Perm (wsOf (its.filter fun i => decide (i.1 < told))) ∧ sp.Perm (spOf (its.filter fun i => decide (i.1 < told))) ∧ SortedOf s1 ((wsOf its).filter fun w => decide (w.1 < told)) ∧
              LD H' B' ((FIN rows its g s1 told).rows.map SRow.d) ∧ B' ≠ x'.asked ∧ B' ≠ x'.bad
            refine for_it (walk_list (K := K) (xs := hs.map V.int)) Pv ?_ (fun j σ' H' _ h => ?_) ?_ ?_
            · obtain ⟨s0, hs0'⟩ := exists_sorted ((wsOf its).filter fun w => decide (w.1 < -1))
              have hnone : its.filter (fun i => decide (i.1 < -1)) = [] := by
                rw [List.filter_eq_nil_iff]
                intro i hi
                have := (hit0 i hi).1
                simp
                omega
              refine ⟨x, [], [], B, s0, _, _, _, -1, by rw [← hg, hxl]; rfl, ctx, ⟨rfl, hxb, hxg, rfl, rfl⟩, .inl ⟨rfl, hxh⟩, fun z hz => ?_, hL23, by rw [hnone]; exact List.Perm.refl _, by rw [hnone]; exact List.Perm.refl _, hs0', by rw [FIN_neg _ _ _ _ (by decide)]; exact hB23, hBne.1, hBne.2⟩
              have := hs0 z (List.mem_of_mem_drop hz)
              omega
            · obtain ⟨_, _, _, _, _, _, _, _, _, _, C, _⟩ := h
              exact SqL.of C.hours
            · rintro j y σ' H0 H0' hj ⟨x', ws, sp, B', s1, v5, v13, v14, told, rfl, C0, ⟨e1x, e2x, e3x, e4x, e5x⟩, htold, hdrop, L0, pw, psp, hs1, hB0, hBa, hBb⟩ ⟨rfl, hy⟩
              rw [List.length_map] at hj
              rw [List.getElem?_map, List.getElem?_eq_getElem hj] at hy
              obtain rfl : V.int hs[j] = y := by simpa using hy
              have hmt : told ≤ hs[j] := hdrop _ (by rw [List.drop_eq_getElem_cons hj]; exact List.mem_cons_self ..)
              have hm0 := hs0 _ (List.getElem_mem hj)
              have hnext : ∀ z ∈ hs.drop (j + 1), hs[j] ≤ z := fun z hz => by
                have q := hsorted.sublist (List.drop_sublist j hs)
                rw [List.drop_eq_getElem_cons hj] at q
                exact (List.pairwise_cons.mp q).1 z hz
              generalize hs[j] = m at hmt hm0 hnext
              rw [← e1x, ← e4x, ← e5x] at dis tne
              rw [← e4x, ← e5x] at cane
              have hj6 : j ≤ 6 := by omega
              have n1' : N + 740 + 200 * j ≤ 20000 := by omega
              generalize hM : N + 740 + 200 * j = M at C0 n1'
              obtain ⟨tvs, etl0, htv0⟩ := C0.things.ex
              have htv0l := htv0.len
              rw [List.length_map] at htv0l
              refine ⟨_, rfl, _, rfl, _, rfl, TL, rfl, ⟨_, SqL.of etl0⟩, fun D hD => ?_⟩
              refine lc_it (walk_list (K := K) (xs := tvs)) (fun q H' => LD H' D (((its.take q).filter fun i => decide (told ≤ i.1) && decide (i.1 < m)).map itD) ∧ Kp [] H0' H') ?_ (fun _ H' _ h => SqL.of (h.2.lst etl0 n0)) ?_ ?_
              · generalize e : upd _ D _ = H1
                obtain ⟨e1, k1⟩ := newF e hD
                exact ⟨⟨_, e1, .nil⟩, k1⟩
              · rintro q y H1 H1' hq ⟨hD1, k1⟩ ⟨rfl, hy⟩
                have hq2 : q < its.length := by omega
                obtain ⟨d, hd, hdt⟩ := (htv0.kp k1).get hy
                rw [List.getElem?_map, List.getElem?_eq_getElem hq2] at hd
                obtain rfl : itD its[q] = d := by simpa using hd
                have htk' : its.take (q + 1) = its.take q ++ [its[q]] := List.take_succ_eq_append_getElem hq2
                generalize its[q] = it at hdt htk'
                obtain ⟨ta, xs, rfl, hta⟩ := itD_inv hdt
                have no : (decide (told ≤ it.1) && decide (it.1 < m)) = false → LD H1' D (((its.take (q + 1)).filter fun i => decide (told ≤ i.1) && decide (i.1 < m)).map itD) ∧ Kp [] H0' H1' := fun z => by
                  refine ⟨?_, k1⟩
                  rw [htk', List.filter_append, List.filter_cons, if_neg (by rw [z]; simp)]
                  simpa using hD1
                refine ⟨rfl, ?_⟩
                by_cases c1 : told ≤ it.1
                · by_cases c2 : it.1 < m
                  · refine ⟨_, rfl, _, rfl, .inr (.inl ⟨ta, _, _, _, rfl, rfl, SqT.of hta, at_of (j := 0) rfl rfl, _, _, rfl, rfl, true, congrArg V.bl (decide_eq_true c1), _, rfl, _, _, rfl, rfl, true, congrArg V.bl (decide_eq_true c2), ?_⟩)⟩
                    obtain ⟨us, eD, hus⟩ := hD1.ex
                    have hul := hus.len
                    rw [List.length_map] at hul
                    refine ⟨_, rfl, us, eD, by rw [hul]; exact small1000 (Nat.le_trans (List.length_filter_le _ _) (by rw [List.length_take]; omega)), ?_⟩
                    generalize e : upd _ D _ = H2
                    obtain ⟨e2, k2⟩ := putL e eD
                    refine ⟨⟨_, e2, ?_⟩, k1.mut k2 hD⟩
                    rw [htk', List.filter_append, List.map_append, List.filter_cons, if_pos (by rw [decide_eq_true c1, decide_eq_true c2]; rfl)]
                    exact (hus.kp k2).app (.one (hdt.kp k2))
                  · exact ⟨_, rfl, _, rfl, .inr (.inl ⟨ta, _, _, _, rfl, rfl, SqT.of hta, at_of (j := 0) rfl rfl, _, _, rfl, rfl, true, congrArg V.bl (decide_eq_true c1), _, rfl, _, _, rfl, rfl, false, congrArg V.bl (decide_eq_false c2), no (by rw [decide_eq_true c1, decide_eq_false c2]; rfl)⟩)⟩
                · exact ⟨_, rfl, _, rfl, .inr (.inl ⟨ta, _, _, _, rfl, rfl, SqT.of hta, at_of (j := 0) rfl rfl, _, _, rfl, rfl, false, congrArg V.bl (decide_eq_false c1), false, rfl, no (by rw [decide_eq_false c1]; rfl)⟩)⟩
              · rintro H1 ⟨hD1, k1⟩
                rw [htv0l, List.take_length] at hD1
                have hperm1 := told_perm hmt its
                generalize hi1 : its.filter (fun i => decide (told ≤ i.1) && decide (i.1 < m)) = its1 at hD1 hperm1
                have hi1m : ∀ i ∈ its1, i ∈ its ∧ told ≤ i.1 := fun i hi => by
                  rw [← hi1] at hi
                  obtain ⟨q1, q2⟩ := List.mem_filter.mp hi
                  exact ⟨q1, of_decide_eq_true (Bool.and_eq_true_iff.mp q2).1⟩
                have hi1l : its1.length ≤ its.length := by
                  rw [← hi1]
                  exact List.length_filter_le ..
                have hfl2 : (its.filter fun i => decide (i.1 < m)).length ≤ its.length := List.length_filter_le ..
                have hfl3 : (its.filter fun i => decide (i.1 < told)).length ≤ its.length := List.length_filter_le ..
                have hwl0 := pw.length_eq
                have hsl0 := psp.length_eq
                have hwf : (wsOf (its.filter fun i => decide (i.1 < told))).length ≤ (wsOf its).length := by
                  rw [wsOf_filter]
                  exact List.length_filter_le ..
                have hsf := hspl (its.filter fun i => decide (i.1 < told))
                have C1 := C0.kp0 k1
                have L1 := L0.kp k1 fun _ _ => n0
                have u1b : BusAt K H1 x'.bus bn1 ms1 := by rw [e2x]; exact C1.u1
                have disn : ∀ y ∈ keepl TL HL b1 bn1 b2 bn2 ms1 ms2, y ∉ [t, x'.asked, x'.bad] := fun y hy => by
                  obtain ⟨q1, q2⟩ := dis y hy
                  have q3 := q2 x'.asked (by simp)
                  have q4 := q2 x'.bad (by simp)
                  simp [q1, q3, q4]
                refine ⟨t, ca, D, x', ws, sp, bn1, ms1, its1, M, rfl, C1.tape, L1, u1b, hD1, by omega, fun i hi => ?_, by omega, by rw [hsl0]; exact Nat.le_trans (hspl _) (Nat.le_trans (List.length_filter_le _ _) (by omega)), by omega, ?_, ⟨cane.1.symm, cane.2.symm⟩, fun H2 ws' sp' k2 T2 L2 p1 p2 => ?_⟩
                · obtain ⟨q1, q2⟩ := hi1m i hi
                  obtain ⟨q3, q4⟩ := hit0 i q1
                  refine ⟨?_, fun nm hnm => ⟨hstr nm (q4 nm hnm), by rw [hn1]; exact q4 nm hnm⟩⟩
                  rcases htold with ⟨_, h⟩ | ⟨_, h⟩ <;> rw [h] <;> omega
                · intro y hy
                  rw [e2x] at hy
                  obtain ⟨q1, q2⟩ := dis y (C1.f1 y hy)
                  exact ⟨q1, q2 _ (by simp), q2 _ (by simp)⟩
                · have C2 := C1.kp k2 disn T2 (k2.tabs C1.tabs)
                  have hmax : (if m > told then m else told) = m := by split <;> omega
                  refine ⟨_, rfl, _, rfl, _, _, rfl, ?_⟩
                  rw [hmax]
                  have pw2 : (ws ++ ws').Perm (wsOf (its.filter fun i => decide (i.1 < m))) := by
                    refine (pw.append p1).trans ?_
                    rw [← wsOf_append]
                    exact hperm1.filterMap _
                  have ps2 : (sp ++ sp').Perm (spOf (its.filter fun i => decide (i.1 < m))) := by
                    refine (psp.append p2).trans ?_
                    rw [← spOf_append]
                    exact hperm1.filterMap _
                  have hw2 := pw2.length_eq
                  have hs2 := ps2.length_eq
                  have hwf2 : (wsOf (its.filter fun i => decide (i.1 < m))).length ≤ (wsOf its).length := by
                    rw [wsOf_filter]
                    exact List.length_filter_le ..
                  have hsf2 := hspl (its.filter fun i => decide (i.1 < m))
                  obtain ⟨dl2, el2⟩ := id L2.i
                  have u2b : BusAt K H2 x'.bus bn1 ms1 := by rw [e2x]; exact C2.u1
                  refine ⟨_, rfl, x'.ln, dl2, _, rfl, el2, rfl, _, rfl, x', m, ws ++ ws', sp ++ sp', bn1, ms1, rfl, L2, u2b, by rw [hm1]; exact hrows, by omega, by rcases htold with ⟨_, h⟩ | ⟨_, h⟩ <;> rw [h] <;> omega, by omega, by rw [hs2]; exact Nat.le_trans (hspl _) (Nat.le_trans (List.length_filter_le _ _) (by omega)), C2.tabs, fun H3 mv rw' pss hmv hrw hpf k3 t3 L3 hpl hjs R3 => ?_⟩
                  have C3 := C2.kp k3 (fun y hy => n1 ((dis y hy).2 _ (by simp))) (C2.tape.kp k3 (n1 (tne _ (by simp))) (by
                    obtain ⟨_, _, _, _, h1, _⟩ := C2.tape.ex
                    exact n1 (ne_of h1 el2 (fun z => nomatch z)))) t3
                  have hsp1 : (sp ++ sp').length ≤ 50 := by rw [hs2]; exact Nat.le_trans (hspl _) (Nat.le_trans (List.length_filter_le _ _) (by omega))
                  -- the line that is told all at once
                  refine ⟨_, rfl, _, rfl, rfl, rfl, fun ol dy hyl hdy hyne => ?_⟩
                  rw [gl]
                  generalize e : upd (upd _ dy _) ol _ = H4
                  obtain ⟨e4o, k4o⟩ := newI e hyl hdy hyne
                  refine ⟨ol, dy, b2, g, rfl, e4o, fun H5 o holn hob hog hoh foA foB foM foR k5o Lo5 => ⟨rfl, ?_⟩⟩
                  subst holn
                  have k35 : Kp [] H3 H5 := k4o.mut k5o hyl
                  have C5 := C3.kp0 k35
                  have L5 := L3.kp k35 fun _ _ => n0
                  have R5 := R3.kp0 k35
                  have fo3 : ∀ q ∈ [o.ln, o.asked, o.bad], H3 q = none := fun q hq => by
                    simp only [List.mem_cons, List.not_mem_nil, or_false] at hq
                    rcases hq with rfl | rfl | rfl
                    · exact hyl
                    · exact k4o.free0 foA
                    · exact k4o.free0 foB
                  have fo : ∀ y, H3 y ≠ none → ∀ q ∈ [o.ln, o.asked, o.bad], y ≠ q := fun y hy q hq e => hy (e ▸ fo3 q hq)
                  have kn3 := C3.known
                  have Ck : ∀ y ∈ keepl TL HL b1 bn1 b2 bn2 ms1 ms2, ∀ q ∈ [o.ln, o.asked, o.bad], y ≠ q := fun y hy => fo y (kn3 y (List.mem_cons_of_mem _ (List.mem_cons_of_mem _ hy)))
                  have tk3 : ∀ q ∈ [o.ln, o.asked, o.bad], t ≠ q := fo t (kn3 t (List.mem_cons_self ..))
                  have ck3 : ∀ q ∈ [o.ln, o.asked, o.bad], ca ≠ q := fo ca (kn3 ca (List.mem_cons_of_mem _ (List.mem_cons_self ..)))
                  have in3 : ∀ {y : Addr}, y ≠ t → (∀ q ∈ [o.ln, o.asked, o.bad], y ≠ q) → y ∉ [t, o.asked, o.bad] := fun {y} h1 h2 => by
                    have q3 := h2 o.asked (by simp)
                    have q4 := h2 o.bad (by simp)
                    simp [h1, q3, q4]
                  have Ld : ∀ y ∈ [(x'.ran m mv rw').ln, (x'.ran m mv rw').asked, (x'.ran m mv rw').bad], y ≠ t ∧ ∀ q ∈ [o.ln, o.asked, o.bad], y ≠ q := fun y hy => ⟨(tne y hy).symm, fo y (L3.known y hy)⟩
                  have Rd : ∀ y ∈ rfoot (x'.ran m mv rw') pss, y ≠ t ∧ ∀ q ∈ [o.ln, o.asked, o.bad], y ≠ q := fun y hy => ⟨R3.nt C3.tape y hy, fo y (R3.known y hy)⟩
                  have u5b : BusAt K H5 o.bus bn2 ms2 := by rw [hob]; exact C5.u2
                  refine ⟨_, rfl, _, rfl, _, rfl, t, ca, TL, o, [], [], bn2, ms2, its, _, rfl, C5.tape, Lo5, u5b, C5.things, by omega, fun i hi => ?_, by decide, by decide, by omega, ?_, ⟨(ck3 _ (by simp)).symm, (ck3 _ (by simp)).symm⟩, fun H6 W SP k6 T6 Lo6 p3 p4 => ?_⟩
                  · obtain ⟨q3, q4⟩ := hit0 i hi
                    refine ⟨by rw [hoh]; exact q3, fun nm hnm => ⟨hstr nm (q4 nm hnm), by rw [hn2]; exact q4 nm hnm⟩⟩
                  · intro y hy
                    rw [hob] at hy
                    have q1 := C5.f2 y hy
                    exact ⟨(dis y q1).1, Ck y q1 _ (by simp), Ck y q1 _ (by simp)⟩
                  · rw [List.nil_append, List.nil_append] at Lo6
                    have C6 := C5.kp k6 (fun y hy => in3 (dis y hy).1 (Ck y hy)) T6 (k6.tabs C5.tabs)
                    have L6 := L5.kp k6 fun y hy => in3 (Ld y hy).1 (Ld y hy).2
                    have R6 := R5.kp k6 fun y hy => in3 (Rd y hy).1 (Rd y hy).2
                    have hW := p3.length_eq
                    have hSP := p4.length_eq
                    have hSP2 := hspl its
                    obtain ⟨do6, eo6⟩ := id Lo6.i
                    have u6b : BusAt K H6 o.bus bn2 ms2 := by rw [hob]; exact C6.u2
                    refine ⟨_, rfl, o.ln, do6, _, rfl, eo6, rfl, _, rfl, o, m, W, SP, bn2, ms2, rfl, Lo6, u6b, by rw [hm2]; exact hrows, by omega, by rw [hoh]; exact hm0, by omega, by omega, C6.tabs, fun H7 mv2 rw2 pso hmv2 hrw2 hpf2 k7 t7 Lo7 hpl2 hjs2 Ro7 => ?_⟩
                    have C7 := C6.kp k7 (fun y hy => n1 (Ck y hy _ (by simp))) (C6.tape.kp k7 (n1 (tk3 _ (by simp))) (n1 (ck3 _ (by simp)))) t7
                    have L7 := L6.kp k7 fun y hy => n1 ((Ld y hy).2 _ (by simp))
                    have R7 := R6.kp k7 fun y hy => n1 ((Rd y hy).2 _ (by simp))
                    have hB1 := hB0.kp k1 n0
                    have hBt : B' ≠ t := by
                      obtain ⟨_, e, _⟩ := hB0.ex
                      exact C0.tape.nl e
                    have hB2' := hB1.kp k2 (by simp [hBt, hBa, hBb] : B' ∉ [t, x'.asked, x'.bad])
                    have hB3 := hB2'.kp k3 (n1 (by
                      obtain ⟨_, e, _⟩ := hB2'.ex
                      exact ne_of e el2 (fun z => nomatch z)))
                    have hBk : H3 B' ≠ none := by
                      obtain ⟨_, e, _⟩ := hB3.ex
                      rw [e]; simp
                    have hB7 := ((hB3.kp k35 n0).kp k6 (in3 hBt (fo B' hBk))).kp k7 (n1 (fo B' hBk _ (by simp)))
                    -- what both have sent
                    obtain ⟨s2, hss2⟩ := exists_sorted ((wsOf its).filter fun w => decide (w.1 < m))
                    have hjA := hjs s2 (hss2.perm (by
                      refine (List.Perm.symm ?_)
                      refine (pw2.filter _).trans ?_
                      rw [wsOf_filter, List.filter_filter]
                      refine List.Perm.of_eq (List.filter_congr fun w _ => ?_)
                      simp))
                    have hjB := hjs2 s2 (hss2.perm (p3.filter _).symm)
                    rw [hm1, e3x] at hjA
                    rw [hm2, hog] at hjB
                    have stA : fin (pss.map (·.j)) (sp ++ sp') m = FIN rows its g s2 m := by
                      rw [hjA]
                      exact fin_sp (sp_same ps2)
                    have stB : fin (pso.map (·.j)) SP m = FIN rows its g s2 m := by
                      rw [hjB]
                      exact fin_sp (sp_all p4 m)
                    rw [stA] at R7
                    rw [stB] at Ro7
                    have hGo := FIN_goes hrows its g hmt hs1 hss2
                    obtain ⟨okR, lnR⟩ := fin_ok hrows its s2 g m
                    obtain ⟨okR1, lnR1⟩ := fin_ok hrows its s1 g told
                    have lenS : ∀ (s : List (Int × Str)) (u : Int), SortedOf s ((wsOf its).filter fun w => decide (w.1 < u)) → (parcelsIn rows s g).length ≤ 200 := fun s u h => by
                      have z1 := parcels_len rows s g
                      have z2 := h.1.length_eq
                      have z3 : ((wsOf its).filter fun w => decide (w.1 < u)).length ≤ (wsOf its).length := List.length_filter_le ..
                      have z4 : rows.length * s.length ≤ 8 * 25 := Nat.mul_le_mul hrl8.1 (by omega)
                      omega
                    have ls1 := lenS s1 told hs1
                    have ls2 := lenS s2 m hss2
                    have hspi := hspl its
                    have okJ := jobsD_okd hrows s2 g (FIN rows its g s2 m).E (k := 4)
                    have okD := rows_okd okR (k := 4)
                    generalize FIN rows its g s1 told = st1 at hB7 hGo okR1 lnR1
                    generalize hst2 : FIN rows its g s2 m = st2 at R7 Ro7 hGo okR lnR okJ okD
                    have sameN : ∀ {B : Hp} {a b : Addr} {ds : List PyData} {Q : VK}, (∀ d ∈ ds, Okd 5 d) → LD B a ds → LD B b ds → Q (.bl false) B → rNeD K (.ref a) (.ref b) B Q := fun {B a b ds Q} hr h1 h2 q =>
                      ⟨_, _, h1.dp, h2.dp, (Okd.list hr).shaped (by decide), (Okd.list hr).shaped (by decide), by
                        rw [eqv_refl _ (Okd.list hr).1]
                        exact q⟩
                    have iA : ∀ {B : Hp}, Kp [] H7 B → InsL K B (x'.ran m mv rw') := fun k => L7.i.kp k n0
                    have iB : ∀ {B : Hp}, Kp [] H7 B → InsL K B (o.ran m mv2 rw2) := fun k => Lo7.i.kp k n0
                    have rA : ∀ {B : Hp}, Kp [] H7 B → RanAt K B (x'.ran m mv rw') pss st2 := fun k => R7.kp0 k
                    have rB : ∀ {B : Hp}, Kp [] H7 B → RanAt K B (o.ran m mv2 rw2) pso st2 := fun k => Ro7.kp0 k
                    obtain ⟨dA7, eA7⟩ := iA (Kp.refl _ _)
                    refine ⟨_, rfl, x'.ln, dA7, _, rfl, eA7, rfl, x'.ran m mv rw', _, rfl, ⟨dA7, eA7⟩, R7.r, fun Fd H8 hF k8 hF8 => ?_⟩
                    obtain ⟨dB8, eB8⟩ := iB k8
                    refine ⟨_, rfl, _, rfl, o.ln, dB8, _, rfl, eB8, rfl, o.ran m mv2 rw2, _, rfl, ⟨dB8, eB8⟩, (rB k8).r, fun F2 H9 hF2 k9 hF29 => ?_⟩
                    refine sameN okD (hF8.kp k9 n0) hF29 ⟨false, rfl, ?_⟩
                    have c9 := k8.trans k9
                    obtain ⟨dA9, eA9⟩ := iA c9
                    refine ⟨_, rfl, x'.ln, dA9, _, rfl, eA9, rfl, x'.ran m mv rw', pss, st2.E, rfl, ⟨dA9, eA9⟩, (rA c9).m, (rA c9).p, hpl, fun J1 H10 hJ1 k10 hJ10 => ?_⟩
                    have c10 := c9.trans k10
                    obtain ⟨dB10, eB10⟩ := iB c10
                    refine ⟨_, rfl, o.ln, dB10, _, rfl, eB10, rfl, o.ran m mv2 rw2, pso, st2.E, rfl, ⟨dB10, eB10⟩, (rB c10).m, (rB c10).p, hpl2, fun J2 H11 hJ2 k11 hJ21 => ?_⟩
                    rw [hjA] at hJ10
                    rw [hjB] at hJ21
                    refine sameN okJ (hJ10.kp k11 n0) hJ21 ⟨false, rfl, ?_⟩
                    have c11 := c10.trans k11
                    have hF11 := ((hF8.kp k9 n0).kp k10 n0).kp k11 n0
                    refine ⟨_, rfl, _, rfl, B', Fd, st1.rows, st2.rows, rfl, hB7.kp c11 n0, hF11, hGo, okR1, okR, by omega, by omega, fun H12 k12 => ⟨true, rfl, ?_⟩⟩
                    have c12 := c11.trans k12
                    obtain ⟨fvs, eF12, hfv⟩ := (hF11.kp k12 n0).ex
                    have hfvl := hfv.len
                    rw [List.length_map] at hfvl
                    refine ⟨_, rfl, Fd, fvs, rfl, .inl (SqL.of eF12), fun B2 hB2 => ?_⟩
                    generalize e : upd _ B2 _ = H13
                    obtain ⟨e13, k13'⟩ := newF e hB2
                    have c13 := c12.trans k13'
                    have eF13 := k13'.lst eF12 n0
                    have hFB : B2 ≠ Fd := (ne_of_none eF12 hB2).symm
                    refine ⟨_, rfl, tyL eF13, Fd, fvs, .non, rfl, rfl, eF13, by rw [hfvl]; exact small1000 (by omega), ?_⟩
                    generalize e : upd _ Fd _ = H14'
                    obtain ⟨e14', k14'⟩ := putL e eF13
                    have c14 := c13.mut k14' hF
                    obtain ⟨dA14, eA14⟩ := iA c14
                    refine ⟨_, rfl, x'.ln, dA14, _, rfl, eA14, rfl, x'.ran m mv rw', pss, st2.E, rfl, ⟨dA14, eA14⟩, (rA c14).m, (rA c14).p, hpl, fun J3 H15' hJ3 k15' hJ35 => ?_⟩
                    obtain ⟨jvs, eJ3, _⟩ := hJ35.ex
                    refine ⟨tyL eJ3, J3, jvs, rfl, rfl, eJ3, ?_⟩
                    generalize e : upd _ J3 _ = H16'
                    obtain ⟨e16', k16'⟩ := putL e eJ3
                    have c15 := c14.trans k15'
                    have c16 := c15.mut k16' (c14.free0 hJ3)
                    have eB14 := k14'.lst e13 (n1 hFB)
                    have hBJ : B2 ≠ J3 := ne_of_none eB14 hJ3
                    have eB16 := k16'.lst (k15'.lst eB14 n0) (n1 hBJ)
                    have hB16 : LD H16' B2 (st2.rows.map SRow.d) := ⟨fvs, eB16, (((hfv.kp k13').kp k14').kp k15').kp k16'⟩
                    obtain ⟨dA16, eA16⟩ := iA c16
                    refine ⟨_, rfl, x'.ln, dA16, _, rfl, eA16, rfl, x'.ran m mv rw', _, rfl, ⟨dA16, eA16⟩, (rA c16).r, fun F3 H17' hF3 k17' hF37 => ?_⟩
                    refine ⟨_, rfl, sameN okD hF37 (hB16.kp k17' n0) ⟨false, rfl, ?_⟩⟩
                    have c17 := c16.trans k17'
                    obtain ⟨dA17, eA17⟩ := iA c17
                    refine ⟨_, rfl, x'.ln, dA17, _, rfl, eA17, rfl, x'.ran m mv rw', pss, st2.E, rfl, ⟨dA17, eA17⟩, (rA c17).m, (rA c17).p, hpl, fun J4 H18' hJ4 k18' hJ48 => ?_⟩
                    have c18 := c17.trans k18'
                    obtain ⟨dB18, eB18⟩ := iB c18
                    refine ⟨_, rfl, o.ln, dB18, _, rfl, eB18, rfl, o.ran m mv2 rw2, pso, st2.E, rfl, ⟨dB18, eB18⟩, (rB c18).m, (rB c18).p, hpl2, fun J5 H19' hJ5 k19' hJ59 => ?_⟩
                    rw [hjA] at hJ48
                    rw [hjB] at hJ59
                    refine sameN okJ (hJ48.kp k19' n0) hJ59 ⟨false, rfl, ?_⟩
                    have c19 := c18.trans k19'
                    obtain ⟨dA19, eA19⟩ := iA c19
                    refine ⟨_, rfl, x'.ln, dA19, _, rfl, eA19, rfl, x'.ran m mv rw', rfl, ⟨dA19, eA19⟩, _, rfl, rfl, false, ?_, ?_⟩
                    · show V.bl (!decide (V.int m = V.int m)) = V.bl false
                      simp
                    · have kn7 := L7.known
                      have fresh2 : ∀ q ∈ [x'.ln, x'.asked, x'.bad], B2 ≠ q := fun q hq e => kn7 q hq (e ▸ c12.free0 hB2)
                      have C19 := C7.kp0 c19
                      have nl : M + its1.length + its.length ≤ N + 740 + 200 * (j + 1) := by omega
                      exact ⟨x'.ran m mv rw', ws ++ ws', sp ++ sp', B2, s2, _, _, _, m, rfl, C19.kp (Kp.refl [] _) (fun _ _ => n0) (C19.tape.le nl) C19.tabs, ⟨e1x, e2x, e3x, e4x, e5x⟩, .inr ⟨hm0, rfl⟩, hnext, L7.kp c19 (fun _ _ => n0), pw2, ps2, hss2, by rw [hst2]; exact (hB16.kp k17' n0 |>.kp k18' n0 |>.kp k19' n0), fresh2 x'.asked (by simp), fresh2 x'.bad (by simp)⟩
            · rintro σ' H' ⟨x', ws, sp, B', s1, v5, v13, v14, told, rfl, C, _⟩
              rw [List.length_map] at C
              exact ⟨⟨_, _, _, _, _, _, _, _, _, _, _, _, _, rfl⟩, C.tape.le (by omega), C.tabs⟩
    · rintro σ' Hs ⟨⟨x2, x3, x4, x5, x6, x7, x8, x9, x10, x11, x12, x13, x14, rfl⟩, Ts, ts⟩
      exact k Hs
end
end K57
set_option Elab.async false
set_option linter.all false
set_option maxRecDepth 100000
set_option maxHeartbeats 0
namespace K57
open PySem PySem.Spec PyProof.Rows L2
abbrev R : PySem.W.OpenRow := PySem.W.OpenLaw.row PySem.Challenge.rw_promptworks_k57_whole_line_however_cut
def names : List Str := (["_wall", "__name__", "BadTask", "NoTask", "Twice", "Past", "Shared", "jobs_of", "Parcel", "parcels_in", "first_ready", "stop_of", "sent_by", "Line", "LETTERS", "LONGEST_NAME", "is_name", "is_whole", "is_section", "lies_within"] : List Str) ++
  (["go_together", "are_sections", "bad_part", "Message", "Bus", "_law_tape", "_law_draw", "_law_pick", "_law_names", "_law_ranked", "_law_rows", "_law_bus", "_law_wishes", "_law_told_to", "_law_goes_on"] : List Str)
def tf : List He.Defn := [("first_ready", none)]
abbrev hk : PySem.W.Hook := He.hookX 6 fa fn [] tf (fun _ => true)
def ob (s : PySem.W.SharedT) : He.AlX := He.obsX 6 fa fn [] tf (fun _ => true) (HandSHeadRun.getT s)
theorem ob_eq (s : PySem.W.SharedT) : ob s = hk.obs s.abs := He.obsX_eq (HandSHeadRun.getT_eq s)
theorem run (w : World) : HandSHeadRun.RunEq R (PySem.W.view R.prog [41]) hk ob 20000 names w := by
  intro os
  kernel_rfl
end K57
set_option Elab.async false
set_option linter.all false
set_option maxRecDepth 100000
set_option maxHeartbeats 0
namespace K57
open PySem PySem.Spec PyProof.Rows L2
theorem law_at {w : World} {K : PySem.W.Frag} {h : Heap} {mg : Str → Option Value} {f : Addr} (X : K.In h) (G : h.Ns mainGlobals mg) (hfa : mg ("law" : Str) = some (.ref f)) (c : He.SaysX fa fn [] tf (fun _ => true) w h K) :
    LamX.LawAtS PySem.Challenge.rw_promptworks_k57_whole_line_however_cut w K CX0 7 63 "script" mg f h := by
  have T : Txt K mg := txt_of X G c.t.d
  have hm : fr ∈ tf := List.mem_singleton.mpr rfl
  obtain ⟨fd0, F0⟩ := T.f_law
  have e := hfa.symm.trans (He.glo_ok X G (c.t.d.fact 106 (f := .glo "law") rfl))
  cases e
  refine ⟨fd0, [He.cT K fr], spLaw K, fun p hp => ?_, fun p hp => ?_, fun p hp => ?_, ?_, ?_, ?_⟩
  · rw [List.mem_singleton.mp hp]
    exact c.empty fr hm
  · rw [List.mem_singleton.mp hp]
    exact c.out fr hm
  · rw [List.mem_singleton.mp hp]
    exact PySem.W.codeHd_of_K X (c.hd fr hm)
  · exact fun s v => (FunD.bindsA (ps := ["script"]) F0 fun _ _ _ _ _ _ us hl => match us, hl with | [_], _ => rfl) s [v] rfl
  · intro H a ns hl _ hH hS
    exact ⟨a, ns, rfl, hS, hl, fun p hp => by
      rw [List.mem_singleton.mp hp]
      exact LamX.TabS.nil (hH _ (List.mem_singleton.mpr rfl)), fun _ => rfl⟩
  · intro base _ _ hB
    exact ok_law (P := PySem.Challenge.rw_promptworks_k57_whole_line_however_cut.prog) (w := w) (base := base) T (hB _ (List.mem_singleton.mpr rfl)) F0
end K57
open PySem PySem.W PySem.Calls PyProof.Rows
set_option maxRecDepth 100000 in
set_option maxHeartbeats 0 in
theorem PySem.Challenge.cw_promptworks_k57_whole_line_however_cut_holds : PySem.Challenge.rw_promptworks_k57_whole_line_however_cut.Holds := by
  w_on; o_law
  refine HandSHeadRun.head_any (r := OpenLaw.row PySem.Challenge.rw_promptworks_k57_whole_line_however_cut) (q := view (OpenLaw.row PySem.Challenge.rw_promptworks_k57_whole_line_however_cut).prog [41]) (H := K57.hk) (ob := K57.ob) (M := 20000) (loose := K57.names) (d := HandSHeadRun.topDef (OpenLaw.row PySem.Challenge.rw_promptworks_k57_whole_line_however_cut).prog 41) (kwd := []) K57.ob_eq
    (by kernel_rfl) (fun s => by kernel_rfl) K57.run (by kernel_rfl) (by kernel_rfl) (by kernel_rfl) (by rfl) (by first | assumption | decide +kernel) (by decide +kernel) ⟨rfl, rfl, rfl, rfl, rfl, by decide +kernel⟩ ?hw ?hc
  case hw => w_witness2
  case hc =>
    refine LamX.walk_ofTsE (l := PySem.Challenge.rw_promptworks_k57_whole_line_however_cut) (n := 63) (k := 7) (x := "script") (CX := fun _ => L2.CX0) rfl (by decide) (by kernel_rfl) ⟨rfl, by decide, by decide⟩ ?F (fun _ _ _ _ _ z => z)
    intro w mg fa h Y G hmg0
    obtain ⟨K, KX, c⟩ := Y
    have hmg : mg ("law" : PySem.Str) = some (.ref fa) := by
      have e : (HandSHeadRun.topDef (OpenLaw.row PySem.Challenge.rw_promptworks_k57_whole_line_however_cut).prog 41).name = ("law" : PySem.Str) := by kernel_rfl
      rw [← e]
      exact hmg0
    exact ⟨K, KX, K57.law_at KX G hmg c⟩
