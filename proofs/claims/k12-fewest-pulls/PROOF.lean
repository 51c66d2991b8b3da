import PyProof.Rows.All
import Wide.All
import OpenK.AllK
import Wide.FinOn
import HandS.ForMost
import HandS.Conv
import HandS.Deep
import HandS.Sort
import HandS.SortOrd
import HandS.SortInts
import HandS.Style
import HandS.GenList
import KE.SortData
import KE.KRevSl
import KE.GoesMore
import KE.GoesEnum
import PyProof.StrOps2
import PyProof.Rows.StrCountLaw
import HandS.SetFor
import HandS.Rev
import HandS.TupAny
import HandS.IsInst
import HandS.Property
import HandS.Wide
import HandS.Star
import PySem.Challenge.RW_slitstairs_k12_whole_fewest_pulls_are_th
import HandS.GenCall
import KE.KStateDown
import Lean
import HandS.Base
import HandS.Call
import HandS.Ends
import HandS.More
import HandS.Words
import HandS.WordsExc
import HandS.Defaults
import HandS.Head0
import HandS.Head1
import HandS.Head2
import HandS.HeadEnd
import HandS.HeadHook1
import HandS.HeadHook2
import HandS.HeadNt
import HandS.HeadWalk
set_option linter.all false
set_option maxRecDepth 100000
/-! the plain law: mirrors of the defs over words as lists of Bool (true = d), and the check of all words, in core Lean -/
namespace K12M
abbrev Wd := List Bool
abbrev Pull := Nat × Nat × Nat
def okGo : Wd → Nat → Bool
  | [], h => h == 0
  | true :: w, h => okGo w (h + 1)
  | false :: w, h => h != 0 && okGo w (h - 1)
def okW (w : Wd) : Bool := okGo w 0 && (Nat.ble 2 w.length && Nat.ble w.length 12)
def same (w : Wd) (i j : Nat) : Bool := w.getD i false == w.getD j false
def runsGo (w : Wd) : Nat → Nat → Nat → List (Bool × Nat × Nat)
  | 0, _, _ => []
  | n + 1, t, f => if Nat.beq t w.length || !same w t f then (w.getD f false, f, t - f) :: runsGo w n (t + 1) t else runsGo w n (t + 1) f
def runsM (w : Wd) : List (Bool × Nat × Nat) := runsGo w w.length 1 0
def creasesGo (w : Wd) : Nat → Nat → List (Nat × Bool)
  | 0, _ => []
  | n + 1, t => if !same w (t - 1) t then (t, !w.getD t false) :: creasesGo w n (t + 1) else creasesGo w n (t + 1)
def creasesM (w : Wd) : List (Nat × Bool) := creasesGo w (w.length - 1) 1
def ridgesM (w : Wd) : Nat := ((creasesM w).filter fun c => !c.2).length
def heightsGo : Int → Wd → List Int
  | _, [] => []
  | h, b :: w => (if b then h + 1 else h - 1) :: heightsGo (if b then h + 1 else h - 1) w
def heightsM (w : Wd) : List Int := 0 :: heightsGo 0 w
def made (w : Wd) (lo : Nat) (u : Wd) (hi : Nat) : Wd := w.take lo ++ u ++ w.drop hi
def undoneM (w : Wd) (r : Nat) : Option (Wd × Pull) :=
  match (runsM w)[2 * r + 1]?, (runsM w)[2 * r + 2]? with
  | some (_, first, outs), some (_, _, downs) => some (made w first (List.replicate downs true ++ List.replicate outs false) (first + outs + downs), (first + downs, downs, outs))
  | _, _ => none
def rowGo : Wd → List Nat → List Nat → List Pull → Option (List Pull)
  | _, _, [], acc => some acc
  | w, left, r :: rest, acc => match okW w && left.contains r with
    | true => (match undoneM w (left.idxOf r) with
      | some (w', p) => rowGo w' (left.eraseIdx (left.idxOf r)) rest (p :: acc)
      | none => none)
    | false => none
def rowM (w : Wd) (n : Nat) (order : List Nat) : Option (List Pull) := rowGo w (List.range n) order.reverse []
def ordersStep (n : Nat) (found : List (List Nat)) : List (List Nat) := found.flatMap fun o => ((List.range n).filter fun t => !o.contains t).map fun t => o ++ [t]
def ordersGo (n : Nat) : Nat → List (List Nat) → List (List Nat)
  | 0, found => found
  | k + 1, found => ordersGo n k (ordersStep n found)
def ordersM (n : Nat) : List (List Nat) := ordersGo n n [[]]
def fact : Nat → Nat
  | 0 => 1
  | n + 1 => fact n * (n + 1)
/-! the law's own -/
def cut (w : Wd) (i j : Nat) : Wd := (w.drop i).take (j - i)
def lawPullM (w : Wd) (p : Pull) : Option Wd :=
  match cut w (p.1 - 1) (p.1 + 1) == [true, false] && (cut w (p.1 - p.2.1) p.1 == List.replicate p.2.1 true && (cut w p.1 (p.1 + p.2.2) == List.replicate p.2.2 false && decide (((p.2.1 + p.2.2 : Nat) : Int) ≤ (heightsM w).getD p.1 0))) with
  | true => some (made w (p.1 - p.2.1) (List.replicate p.2.2 false ++ List.replicate p.2.1 true) (p.1 + p.2.2))
  | false => none
def odGo (w : Wd) : Nat → Nat → List Nat
  | 0, _ => []
  | n + 1, t => if cut w (t - 1) (t + 1) == [false, true] then t :: odGo w n (t + 1) else odGo w n (t + 1)
def odM (w : Wd) : List Nat := odGo w (w.length - 1) 1
def lowM (w : Wd) : Nat → Nat
  | 0 => 0
  | l + 1 => if w.getD l true then l + 1 else lowM w l
def highM (w : Wd) : Nat → Nat → Nat
  | 0, h => h
  | n + 1, h => if Nat.blt h w.length && w.getD h false then highM w n (h + 1) else h
def lawUndoneM (w : Wd) (at_ : Nat) : Option (Wd × Pull) :=
  match (odM w)[at_]? with
  | some f => some (made w (lowM w f) (List.replicate (highM w w.length f - f) true ++ List.replicate (f - lowM w f) false) (highM w w.length f), (lowM w f + (highM w w.length f - f), highM w w.length f - f, f - lowM w f))
  | none => none
def lawRowGo : Wd → List Nat → List Nat → List Pull → Option (List Pull)
  | _, _, [], acc => some acc
  | w, left, r :: rest, acc => match Nat.ble w.length 12 && left.contains r with
    | true => (match lawUndoneM w (left.idxOf r) with
      | some (w', p) => lawRowGo w' (left.filter fun x => !(Nat.beq x r)) rest (p :: acc)
      | none => none)
    | false => none
def lawRowM (w : Wd) (order : List Nat) : Option (List Pull) := lawRowGo w (List.range order.length) order.reverse []
/-- a pull that the program lets -/
def pullOk (w : Wd) (p : Pull) : Bool := (creasesM w).contains (p.1, true) && ((runsM w).all fun r => !((Nat.beq (r.2.1 + r.2.2) p.1 && Nat.blt r.2.2 p.2.1) || (Nat.beq r.2.1 p.1 && Nat.blt r.2.2 p.2.2))) && (decide (((p.2.1 + p.2.2 : Nat) : Int) ≤ (heightsM w).getD p.1 0) && (Nat.ble 1 p.2.1 && (Nat.ble 1 p.2.2 && (Nat.ble p.2.1 p.1 && Nat.ble p.1 w.length))))
def pulledM (w : Wd) (p : Pull) : Wd := made w (p.1 - p.2.1) (List.replicate p.2.2 false ++ List.replicate p.2.1 true) (p.1 + p.2.2)
def playGo (goal : Wd) : Wd → List Pull → Bool
  | w, [] => w == goal
  | w, p :: ps => okW w && (pullOk w p && (match lawPullM w p with
    | some w' => w' == pulledM w p && (okW w' && playGo goal w' ps)
    | none => false))
def plainW (n : Nat) : Wd := List.replicate n true ++ List.replicate n false
def perms (n : Nat) (o : List Nat) : Bool := Nat.beq o.length n && (List.range n).all fun t => o.contains t
def toldM (w : Wd) : Option (List (List Pull)) := (ordersM (ridgesM w)).mapM (rowM w (ridgesM w))
def goodW (w : Wd) : Bool := okW w && (Nat.beq (odM w).length (ridgesM w) && (match toldM w with
  | some rows => (match (ordersM (ridgesM w)).mapM (lawRowM w) with
    | some rows' => rows == rows' && (Nat.beq (fact (ridgesM w)) (ordersM (ridgesM w)).length && (rowM w (ridgesM w) (List.range (ridgesM w)).reverse == rows.getLast? && rows.all (playGo w (plainW (w.length / 2)))))
    | none => false)
  | none => false))
def allGo : Nat → List Wd → Nat → List Wd
  | _, ws, 0 => ws
  | n, ws, k + 1 => allGo n (ws.flatMap fun w => (if Nat.blt (w.count true) n then [w ++ [true]] else []) ++ (if Nat.blt (w.count false) (w.count true) then [w ++ [false]] else [])) k
def allM (n : Nat) : List Wd := allGo n [[]] (2 * n)
theorem good1 : (allM 1).all goodW = true := by decide +kernel
theorem good2 : (allM 2).all goodW = true := by decide +kernel
theorem good3 : (allM 3).all goodW = true := by decide +kernel
theorem good4 : (allM 4).all goodW = true := by decide +kernel
theorem good5 : (allM 5).all goodW = true := by decide +kernel
theorem good6 : (allM 6).all goodW = true := by decide +kernel
theorem cnt6 : (allM 6).length = 132 := by decide +kernel
end K12M
set_option Elab.async false
set_option linter.all false
set_option maxRecDepth 100000
set_option maxHeartbeats 4000000
/-! rules that the hand layer lacks: str * int, not in a tuple of data, sorted of data, sorted of a tuple of ints, list(range(a, b, c)), a tuple's [::-1], enumerate(a tuple), for in a generator's body -/
namespace K12R
open PySem PySem.Spec PyProof.Rows L2
/-! ### a text times an int -/
theorem foldl_one (c : Nat) : ∀ (k : Nat) (acc : Array Nat), (List.replicate k #[c]).foldl (· ++ ·) acc = acc ++ (List.replicate k c).toArray
  | 0, acc => by simp
  | k + 1, acc => by
    rw [List.replicate_succ, List.foldl_cons, foldl_one c k, List.replicate_succ]
    apply Array.ext'
    simp
def repC (c k : Nat) : Str := ⟨(List.replicate k c).toArray⟩
theorem op_mulS {X : Cx} : OpR X (binaryOp .Mult) (fun x y H Q => ∃ (c k : Nat), x = .str ⟨#[c]⟩ ∧ y = .int (k : Int) ∧ k ≤ 1000 ∧ Q (.str (repC c k)) H) := by
  intro pins s σ H x y v u Q I rx ry h
  obtain ⟨c, k, rfl, rfl, hk, q⟩ := h
  obtain ⟨t, rfl⟩ := rx
  obtain ⟨t', rfl⟩ := ry
  have h1 : (decide ((k : Int) < -(2 ^ 63)) || decide ((k : Int) ≥ 2 ^ 63)) = false := by
    rw [decide_eq_false (by omega), decide_eq_false (by omega)]
    rfl
  have hlen : (⟨#[c]⟩ : Str).length = 1 := rfl
  have hrl : (repC c k).length = k := by
    show (List.replicate k c).toArray.size = k
    simp
  refine PySem.P.mul_str h1 (fun a b => ?_) (fun a b => ?_) ?_
  · rw [hlen]
    have hk1 : (1 : Int) ≤ (k : Int) := by omega
    have : (1000 : Int) ≤ (2 ^ 63 - 1) / (k : Int) := by
      rw [Int.le_ediv_iff_mul_le (by omega)]
      omega
    omega
  · rw [hlen]
    show decide (1 * (k : Int).toNat > sizeLine) = false
    rw [sizeLine_eq]
    exact decide_eq_false (by omega)
  · by_cases k0 : (k : Int) < 1
    · rw [if_pos k0]
      have e : k = 0 := by omega
      subst e
      exact ⟨by decide, ⟨.str (repC c 0), H, I.tok _, ⟨_, rfl⟩, q⟩⟩
    · rw [if_neg k0]
      by_cases k1 : k = 1
      · subst k1
        rw [if_pos (by rfl)]
        exact ⟨.str (repC c 1), H, I, ⟨_, rfl⟩, q⟩
      · rw [if_neg (by
          rw [hlen]
          intro z
          rcases Bool.or_eq_true_iff.mp z with z | z
          · have := eq_of_beq z
            omega
          · cases z)]
        have e : (⟨(List.replicate (k : Int).toNat (⟨#[c]⟩ : Str).cps).foldl (· ++ ·) #[]⟩ : Str) = repC c k := by
          show (⟨(List.replicate (k : Int).toNat #[c]).foldl (· ++ ·) #[]⟩ : Str) = repC c k
          rw [foldl_one, Int.toNat_natCast]
          unfold repC
          congr 1
          apply Array.ext'
          simp
        rw [e]
        exact ⟨by rw [hrl, sizeLine_eq]; omega, ⟨.str (repC c k), H, I.tok _, ⟨_, rfl⟩, q⟩⟩
end K12R
namespace K12R
open PySem PySem.Spec PyProof.Rows L2
/-! ### not in a tuple of data -/
def rNotInT (K : PySem.W.Frag) : R2 := fun x y H Q => ∃ (d : PyData) (ds : List PyData), Dp K H x d ∧ Dp K H y (.tuple ds) ∧ SeqAt.shaped d = true ∧ SeqAt.shaped (.list ds) = true ∧ Q (.bl (!ds.any fun z => PyData.eqv z d)) H
theorem op_notInT {X : Cx} (hu : X.A.units + 65 < cLine) : OpR X (compareOp .NotIn) (rNotInT X.K) := by
  intro pins s σ H x y v u Q I rx ry h
  obtain ⟨d, ds, hd, he, sd, se, q⟩ := h
  obtain ⟨as, r1⟩ := Dp.reads I d x v hd rx
  obtain ⟨bs, r2⟩ := Dp.reads I (.tuple ds) y u he ry
  exact SeqAt.notIn_tuple_reads r2 r1 (SeqAt.canLay_of_shaped se) (SeqAt.canLay_of_shaped sd) (room_in_shaped sd hu) ⟨.bl _, H, I, rfl, q⟩
end K12R
namespace K12R
open PySem PySem.Spec PyProof.Rows L2
/-! ### sorted of data -/
theorem each_of_dp {K : PySem.W.Frag} {H : Hp} : ∀ {xs : List V} {us : List Value} {ds : List PyData}, Vals xs us → DpAll K H xs ds → PySem.W.EachIs (fun u d => ∃ x, RelV x u ∧ Dp K H x d) us ds
  | _, _, _, .nil, h => by
    cases h
    exact .nil
  | _, _, _, .cons r t, h => by
    cases h with
    | cons h1 h2 => exact .cons ⟨_, r, h1⟩ (each_of_dp t h2)
theorem dp_of_each {K : PySem.W.Frag} {H : Hp} : ∀ {us : List Value} {ds : List PyData}, PySem.W.EachIs (fun u d => ∃ x, RelV x u ∧ Dp K H x d) us ds → ∃ xs, Vals xs us ∧ DpAll K H xs ds
  | _, _, .nil => ⟨[], .nil, .nil⟩
  | _, _, .cons ⟨x, r, h1⟩ t => by
    obtain ⟨xs, r2, h2⟩ := dp_of_each t
    exact ⟨x :: xs, .cons r r2, .cons h1 h2⟩
theorem dpAll_len {K : PySem.W.Frag} {H : Hp} : ∀ {xs : List V} {ds : List PyData}, DpAll K H xs ds → xs.length = ds.length
  | _, _, h => by
    cases h with
    | nil => rfl
    | cons _ t => rw [List.length_cons, List.length_cons, dpAll_len t]
def rSortedD (K : PySem.W.Frag) : List V → Hp → VK → Prop := fun vs H Q => ∃ (a : Addr) (xs : List V) (ds : List PyData), vs = [V.ref a] ∧ SqL K H a xs ∧ DpAll K H xs ds ∧
  (ds.length ≤ 1 ∨ (PySem.W.AllAlike ds ∧ PySem.W.Sortable ds ∧ ∀ d ∈ ds, d.depth ≤ 10)) ∧
  ∀ (p : Addr) (ys : List V), H p = none → DpAll K H ys (ds.mergeSort (PySem.W.dataLe false id)) → Q (.ref p) (upd H p (.lst ys))
theorem short_sort {α : Type} (le : α → α → Bool) (l : List α) (h : l.length ≤ 1) : l.mergeSort le = l := by
  match l, h with
  | [], _ => simp
  | [a], _ => simp
def noLt (_ _ : Value) : Bool := false
theorem swo_no : SrtO.Swo noLt := ⟨fun _ _ h => (by cases h), fun _ _ _ _ _ => rfl⟩
theorem perm_short {α : Type} {l m : List α} (h : l.Perm m) (hm : m.length ≤ 1) : l = m := by
  match m, hm, h with
  | [], _, h => exact h.eq_nil
  | [b], _, h => exact List.perm_singleton.mp h
theorem short_not {a b c : Nat} (h1 : a = b) (h2 : a = c) (h3 : c ≤ 1) : ¬ 2 ≤ b := by omega
theorem cr_sortedD {X : Cx} (hu : X.A.units + 64 < cLine) : CallR X (.builtin "sorted") (rSortedD X.K) := by
  intro pins s σ H vs us Q I r h
  obtain ⟨a, xs, ds, rfl, hs, hd, hk, q⟩ := h
  obtain ⟨its, rv, hl, hz⟩ := I.list hs
  rw [Vals.ref1 r]
  have hlen0 := rv.length
  have hlen1 := dpAll_len hd
  have E1 := each_of_dp rv hd
  have fin : ∀ out : List Value, out.length = its.length → PySem.W.EachIs (fun u d => ∃ x, RelV x u ∧ Dp X.K H x d) out (ds.mergeSort (PySem.W.dataLe false id)) → EP X pins σ Q (.ref (s.heap.objs.size + 1)) { s with heap := sortedAll s.heap its out.toArray } := by
    intro out ho he
    obtain ⟨ys, r2, h2⟩ := dp_of_each he
    obtain ⟨ep, he'⟩ := PyProof.Rows.sortedAll_at s.heap its out.toArray
    have hlen : ys.length ≤ sizeLine := by
      rw [r2.length, ho, ← hlen0]
      exact hz
    exact ⟨.ref _, upd H (s.heap.objs.size + 1) (.lst ys), I.laid (t' := s.toks) (fun _ _ => PyProof.Rows.sortedAll_old) (Nat.le_succ _) ⟨hlen, out, ep, r2, he'⟩, rfl, q _ ys (I.hok.fresh (Nat.le_succ _)) h2⟩
  rcases hk with hk | ⟨k1, k2, k3⟩
  · refine SrtO.sorted_ord (ltv := noLt) swo_no hl.isList (by rw [← hlen0]; exact hz) (fun h2 _ _ _ _ => absurd h2 (short_not hlen0 hlen1 hk)) fun out h1 h2 => ?_
    have e : out = its := perm_short h2.perm (Nat.le_trans (Nat.le_of_eq (hlen0.symm.trans hlen1)) hk)
    refine fin out (by rw [e]) ?_
    rw [e, short_sort _ _ hk]
    exact E1
  · refine PySem.W.sorted_data (enc := id) hl.isList E1 (E1.mono fun u d ⟨x, r1, h1⟩ => Dp.reads I d x u h1 r1) (by rw [List.map_id]; exact k1) (by rw [List.map_id]; exact k2) (by rw [← hlen1]; exact hz) (fun b hb => ?_) fun out ho he => ?_
    · have := k3 b hb
      show X.A.units + 2 + b.depth < cLine
      omega
    · exact fin out (by rw [ho]; omega) he
end K12R
namespace K12R
open PySem PySem.Spec PyProof.Rows L2
/-! ### sorted of a tuple of ints -/
theorem sorted_tupI {prog : Program} {w : World} {A : Around} {E : Value → Shared → Prop} {s : Shared} {T : Addr} {vs : List Value} {ns : List Int} {Q : Value → Shared → Prop} (ht : IsTup s.heap T vs.toArray) (hI : IntsAre vs ns) (hz : vs.length ≤ sizeLine)
    (h : ∀ (h1 h' : Heap) (out : List Value) (ns' : List Int) (ep : Nat), IntsAre out ns' → ns'.Perm ns → ns'.Pairwise (· ≤ ·) → (∀ b o, s.heap.get? b = some o → h1.get? b = some o) → (∀ b o, h1.get? b = some o → h'.get? b = some o) → h'.get? h1.objs.size = some (seqObj "list" out.toArray ep) → Q (.ref h1.objs.size) { s with heap := h' }) :
    wpAny (model prog w) A (call (.builtin "sorted") [.ref T]) Q E s := by
  obtain ⟨o, ho, hc, n, hd⟩ := id ht
  refine Calls.call_function_entry kind_sorted plain_sorted entry_sorted (args_sorted1 _) ?_
  unfold Builtin.«sorted»
  refine wpAny_bind (m := checkCount "sorted" 1 1 _) (wpAny_pure ?_)
  refine wpAny_bind (wpAny_collect_seq T (.inr rfl) ho hc hd (fun h1 hk => ?_) (by rw [List.size_toArray]; exact hz))
  refine wpAny_bind (wpAny_newList ?_ hz)
  have e0 : vs.toArray.toList = vs := by simp
  rw [e0]
  have hoL : (h1.push (seqObj "list" vs.toArray 0)).get? h1.objs.size = some (seqObj "list" vs.toArray 0) := Heap.get?_push_size _ rfl
  show wpAny _ _ _ _ _ { s with heap := h1.push (seqObj "list" vs.toArray 0) }
  refine wpAny_bind (wpAny_holding (wpAny_call_entry slot_list_sort ⟨_, hoL, rfl⟩ entry_list_sort (SrtO.list_sort_ord SrtO.swo_int hoL hz (fun h2 => SrtO.ints_sortable hI h2) fun out hs hb => ⟨_, rfl, ?_⟩) (args_list_sort _)))
  obtain ⟨k1, k2, k3⟩ := SrtO.ints_out hI hs hb
  obtain ⟨ep, he'⟩ := PyProof.Rows.sortedHeap_at (vs := vs) (out := out.toArray) hoL
  refine wpAny_pure ⟨_, rfl, h h1 _ out _ ep k1 k2 k3 hk (fun b o q => ?_) he'⟩
  have z1 : b ≠ h1.objs.size := Nat.ne_of_lt (Heap.lt_size q)
  have z2 : (h1.push (seqObj "list" vs.toArray 0)).get? b = some o := Heap.get?_push_of_some _ q
  rw [PyProof.Rows.sortedHeap_old z1 (Heap.lt_size z2)]
  exact z2
def rSortedT (K : PySem.W.Frag) : List V → Hp → VK → Prop := fun vs H Q => ∃ (a : Addr) (ns : List Int), vs = [V.ref a] ∧ SqT K H a (ns.map V.int) ∧
  ∀ (ns' : List Int) (p : Addr), ns'.Perm ns → ns'.Pairwise (· ≤ ·) → H p = none → Q (.ref p) (upd H p (.lst (ns'.map V.int)))
theorem cr_sortedTI {X : Cx} : CallR X (.builtin "sorted") (rSortedT X.K) := by
  intro pins s σ H vs us Q I r h
  obtain ⟨a, ns, rfl, hs, q⟩ := h
  obtain ⟨its, rv, ht, hz⟩ := I.tuple hs
  rw [Vals.ref1 r]
  have hi := rv.ints
  refine sorted_tupI ht hi (by rw [← rv.length]; exact hz) fun h1 h' out ns' ep k1 k2 k3 hk1 hk2 he => ?_
  have I1 : Inv X pins σ H { s with heap := h1 } := I.kept (t' := s.toks) hk1
  have hlen : (ns'.map V.int).length ≤ sizeLine := by
    rw [List.length_map, k2.length_eq]
    rw [List.length_map] at hz
    exact hz
  exact ⟨.ref _, upd H h1.objs.size (.lst (ns'.map V.int)), I1.laid (t' := s.toks) hk2 (Nat.le_refl _) ⟨hlen, out, ep, vals_of_ints k1, he⟩, rfl, q _ _ k2 k3 (I1.hok.fresh (Nat.le_refl _))⟩
/-! ### list(range(a, b, c)) -/
def RgOkC (i j c : Int) (n : Nat) : Prop := Builtin.Range.small i j c = true ∧ Builtin.Range.rangeSize i j c = n ∧ n ≤ 1000
def rgVC (i c : Int) (n : Nat) : List V := (List.range n).map fun m => V.int (i + (m : Nat) * c)
theorem vals_rgC {i c : Int} {n : Nat} {acc : Array Value} (h : ItemsOf (fun m v => ∃ t, v = .int (i + m * c) t) acc n) : Vals (rgVC i c n) acc.toList := by
  have e : acc.toList.length = n := by rw [Array.length_toList]; exact h.1
  unfold rgVC
  rw [← e]
  refine vals_of_get acc.toList _ fun j u hj => ?_
  obtain ⟨t, rfl⟩ := h.2 j u (by rw [← hj, Array.getElem?_toList])
  exact ⟨t, rfl⟩
def tLstRg3 (ta tb tc : TE) : TE := fun σ H Q => ta σ H fun x H1 => tb σ H1 fun y H2 => tc σ H2 fun z H3 => ∃ (i j c : Int) (n : Nat), x = .int i ∧ y = .int j ∧ z = .int c ∧ c ≠ 0 ∧ RgOkC i j c n ∧ ∀ q, H3 q = none → Q (.ref q) (upd H3 q (.lst (rgVC i c n)))
def RgNear (i j c : Int) : Prop := c ≠ 0 ∧ (j - i).natAbs < 2 ^ 30 ∧ c.natAbs < 2 ^ 30
section
variable {X : Cx}
theorem pe_listRg3 {a b c : Expr} {ta tb tc : TE} {p p2 pos pos2 : Pos} (hcm : X.calm = true) (hg : Gl X "list") (hm : X.mg "list" = none) (hg2 : Gl X "range") (hm2 : X.mg "range" = none) (ha : PE X a ta) (hb : PE X b tb) (hc : PE X c tc)
    (na : starEach [a, b, c] X.env = (false, eval a X.env) :: starEach [b, c] X.env := by rfl) (nb : starEach [b, c] X.env = (false, eval b X.env) :: starEach [c] X.env := by rfl) (nc : starEach [c] X.env = (false, eval c X.env) :: starEach [] X.env := by rfl)
    (hp : (backTo pos2 (starEach [b, c] X.env)).any (·.1) = false := by rfl)
    (no : starEach [.Call (.Name "range" p2) [a, b, c] [] pos2] X.env = (false, eval (.Call (.Name "range" p2) [a, b, c] [] pos2) X.env) :: starEach [] X.env := by rfl) :
    PE X (.Call (.Name "list" p) [.Call (.Name "range" p2) [a, b, c] [] pos2] [] pos) (fun σ H Q => ta σ H fun x H1 => tb σ H1 fun y H2 => tc σ H2 fun z H3 => ∃ (i j c : Int) (n : Nat), x = .int i ∧ y = .int j ∧ z = .int c ∧ RgNear i j c ∧ RgOkC i j c n ∧ ∀ q, H3 q = none → Q (.ref q) (upd H3 q (.lst (rgVC i c n)))) := by
  refine ⟨fun pins s σ H Q I h => ?_⟩
  refine Call_ (ld_blt I hg hm boot_list (PyProof.Rows.callWith_type1 (args_cons (Call_ (ld_blt I hg2 hm2 boot_range (PyProof.Rows.callWith_type1 (args_cons (thn (ha.run pins s σ H _ I h) fun v s1 ⟨x, H1, I1, r1, q1⟩ => args_cons (thn (hb.run pins s1 σ H1 _ I1 q1) fun v2 s2 ⟨y, H2, I2, r2, q2⟩ => one_arg hc I2 q2 (fun v3 s3 z H3 I3 r3 q3 => ?_) nc) nb) na) na hp))) no) no))
  obtain ⟨i, j, k, n, rfl, rfl, rfl, ⟨n1, n2, n3⟩, ⟨k1, k2, k3⟩, q⟩ := q3
  obtain ⟨t, rfl⟩ := r1
  obtain ⟨t', rfl⟩ := r2
  obtain ⟨t'', rfl⟩ := r3
  refine call_range_3 n1 ?_ (.inl (PyProof.noPylong_small n3))
  have I4 : Inv X pins σ H3 { s3 with heap := s3.heap.push { cls := .type "range", data := .fields #[.int i t, .int j t', .int k t''] } } := I3.kept (t' := s3.toks) fun b o e => Heap.get?_push_of_some _ e
  refine args_nil ?_
  refine call_list_range (n := n) (I4.ok.hd hcm) (IsRange.new ..) k1 k2 (by omega) fun h' tk acc c' hk e' hi => ?_
  refine ⟨.ref _, upd H3 _ (.lst (rgVC i k n)), I4.laid hk (Nat.le_refl _) (show ObjOk X.prog X.w _ _ _ (.lst (rgVC i k n)) from ⟨?_, acc.toList, c', vals_rgC hi, ?_⟩), rfl, q _ (I4.hok.fresh (Nat.le_refl _))⟩
  · unfold rgVC
    rw [List.length_map, List.length_range, sizeLine_eq]
    omega
  · rw [Array.toArray_toList]
    exact e'
end
end K12R
namespace K12R
open PySem PySem.Spec PyProof.Rows L2
theorem adjust_rev (n : Nat) : Builtin.Slice.sliceAdjust none none (-1) (n : Int) = ((n : Int) - 1, -1) := by
  unfold Builtin.Slice.sliceAdjust
  simp
theorem places_rev (n : Nat) : Builtin.Slice.slicePlaces ((n : Int) - 1) (-1) (-1) = n := by
  unfold Builtin.Slice.slicePlaces
  have h1 : ¬ ((-1 : Int) > 0) := by decide
  simp only [h1, if_false]
  split
  · rw [show (-(-1) : Int) = 1 by decide, Int.ediv_one]
    omega
  · omega
theorem fm_congr {α β : Type} {f g : α → Option β} : ∀ {l : List α}, (∀ a ∈ l, f a = g a) → l.filterMap f = l.filterMap g
  | [], _ => rfl
  | a :: l, h => by
    rw [List.filterMap_cons, List.filterMap_cons, h a List.mem_cons_self, fm_congr fun b hb => h b (List.mem_cons_of_mem _ hb)]
theorem pick_rev (xs : Array Value) : ((List.range xs.size).filterMap fun (m : Nat) => xs[(((xs.size : Int) - 1) + (m : Int) * (-1)).toNat]?).toArray = xs.toList.reverse.toArray := by
  have e : ((List.range xs.size).filterMap fun (m : Nat) => xs[(((xs.size : Int) - 1) + (m : Int) * (-1)).toNat]?) = ((List.range xs.size).map fun k => xs.size - 1 - k).filterMap (xs[·]?) := by
    rw [List.filterMap_map]
    refine fm_congr fun m hm => ?_
    have hm' := List.mem_range.mp hm
    show xs[(((xs.size : Int) - 1) + (m : Int) * (-1)).toNat]? = xs[xs.size - 1 - m]?
    rw [show (((xs.size : Int) - 1) + (m : Int) * (-1)).toNat = xs.size - 1 - m by omega]
  rw [e, PySem.W.krv_range, List.filterMap_reverse, PySem.W.krv_all]
section
variable {prog : Program} {w : World} {A : Around} {E : Value → Shared → Prop} {s : Shared}
theorem sliceApplied_rev {sl : Addr} {vs : Value} {n : Nat} {Q : Int × Int × Nat → Shared → Prop} (hs : s.heap.IsSliceOf sl .none .none vs) (ps : IsPart vs (some (-1)))
    (h : Q ((n : Int) - 1, -1, n) s) : wpAny (model prog w) A (Builtin.Slice.sliceApplied (.ref sl) (pure (n : Int))) Q E s := by
  obtain ⟨os, hos, hcs, hds⟩ := id hs
  unfold Builtin.Slice.sliceApplied Builtin.Slice.sliceFields
  refine wpAny_bind (wpAny_bind (wpAny_field hos hds (x := .none) rfl (wpAny_bind (wpAny_field hos hds (x := .none) rfl (wpAny_bind (wpAny_field hos hds (x := vs) rfl (wpAny_pure ?_)))))))
  refine wpAny_bind (HT.slicePart_ ps ?_)
  show wpAny _ _ (if ((-1 : Int) == 0) = true then _ else _) _ _ s
  rw [if_neg (by decide)]
  refine wpAny_bind (HT.slicePart_ .none (wpAny_bind (HT.slicePart_ .none (wpAny_bind (wpAny_pure ?_)))))
  show wpAny _ _ (match Builtin.Slice.sliceAdjust none none (-1) (n : Int) with | (lo, hi) => pure (lo, (-1 : Int), Builtin.Slice.slicePlaces lo hi (-1))) _ _ s
  rw [adjust_rev n]
  show wpAny _ _ (pure ((n : Int) - 1, (-1 : Int), Builtin.Slice.slicePlaces ((n : Int) - 1) (-1) (-1))) _ _ s
  rw [places_rev]
  exact wpAny_pure h
theorem getItem_tuple_rev {t sl : Addr} {items : Array Value} {vs : Value} {Q : Value → Shared → Prop} (ht : IsTup s.heap t items) (hs : s.heap.IsSliceOf sl .none .none vs) (ps : IsPart vs (some (-1)))
    (h : Q (.ref s.heap.objs.size) { s with heap := s.heap.push { cls := .type "tuple", data := .seq items.toList.reverse.toArray } })
    (hsz : items.size ≤ sizeLine) : wpAny (model prog w) A (getItem (.ref t) (.ref sl)) Q E s := by
  have htake : sizeOk (.seq items.toList.reverse.toArray) := by
    show items.toList.reverse.toArray.size ≤ sizeLine
    rw [List.size_toArray, List.length_reverse, Array.length_toList]
    exact hsz
  obtain ⟨os, hos, hcs, hds⟩ := id hs
  have hTs : s.TypeIs (.ref sl) "slice" := ⟨os, hos, hcs⟩
  unfold getItem
  try with_reducible refine wpAny_holding ?_
  first | refine wpAny_bind (wpAny_pure ?_) | skip
  refine wpAny_bind (wpAny_sequenceKey ht.typeIs (by decide) ?_)
  refine wpAny_bind (wpAny_callSpecial?_slot (name := Str.ofString "__getitem__") ht.typeIs PyProof.Rows.slot_tuple_getitem
    (wpAny_call_entry PyProof.Rows.slot_tuple_getitem ht.typeIs entry_tuple_getitem ?_ (args_tuple_getitem _ _)))
  show wpAny _ _ (Builtin.Tuple.tupleItemsOf (.ref t) >>= _) _ _ s
  refine wpAny_bind (tupleItemsOf_ ht ?_)
  refine wpAny_bind (wpAny_typeOf hTs ?_)
  rw [if_pos (by decide)]
  refine wpAny_bind (sliceApplied_rev hs ps ?_)
  have hno : ¬ (((((items.size : Nat) : Int) - 1 == 0) && (-1 : Int) == 1 && items.size == items.size) = true) := by
    intro q
    rw [Bool.and_eq_true, Bool.and_eq_true] at q
    exact absurd q.1.2 (by decide)
  show wpAny _ _ (if (((items.size : Nat) : Int) - 1 == 0 && (-1 : Int) == 1 && items.size == items.size) = true then _ else _) _ _ s
  rw [if_neg hno, pick_rev]
  first
    | exact wpAny_bind (m := Builtin.Tuple.tupleExact _) (wpAny_newObj_type (wpAny_pure ⟨_, rfl, wpAny_pure h⟩) htake)
    | exact wpAny_bind (m := Builtin.Tuple.tupleExact _) (wpAny_newObj_type (wpAny_bind (wpAny_pure (wpAny_pure ⟨_, rfl, wpAny_pure h⟩))) htake)
    | exact wpAny_bind (wpAny_bind (m := Builtin.Tuple.tupleExact _) (wpAny_newObj_type (wpAny_pure (wpAny_pure ⟨_, rfl, wpAny_pure h⟩)) htake))
    | exact wpAny_bind (wpAny_bind (m := Builtin.Tuple.tupleExact _) (wpAny_newObj_type (wpAny_pure ⟨_, rfl, wpAny_pure h⟩) htake))
end
def tRevT (K : PySem.W.Frag) (te : TE) : TE := fun σ H Q => te σ H fun x H1 => ∃ a xs, x = .ref a ∧ SqT K H1 a xs ∧ ∀ p, H1 p = none → Q (.ref p) (upd H1 p (.tup xs.reverse))
section
variable {X : Cx}
theorem pe_revT {e : Expr} {te : TE} {k : Nat} {p1 p2 p3 pos : Pos} (he : PE X e te) : PE X (.Subscript e (.Slice none none (some (.UnaryOp .USub (.Constant (.int 1) k p1) p2)) p3) pos) (tRevT X.K te) := by
  refine ⟨fun pins s σ H Q I h => ?_⟩
  refine Subscript_ (thn (he.run pins s σ H _ I h) fun v s1 ⟨x, H1, I1, r1, q1⟩ => ?_)
  obtain ⟨a, xs, ex, hx, q⟩ := q1
  subst ex
  cases r1
  have hst : PO X (some (.UnaryOp .USub (.Constant (.int 1) k p1) p2)) (tPart (tUn (rU fun i => .int (-i)) (tC (.int 1)))) := po_some (pe_un un_neg pe_int)
  refine wpAny_Slice (thn (po_none.run pins s1 σ H1 (fun o H2 => o = none ∧ H2 = H1) I1 ⟨rfl, rfl⟩) fun vl s2 ⟨l, H2, I2, pl, el, e2⟩ => ?_)
  subst el e2
  refine thn (po_none.run pins s2 σ H2 (fun o H3 => o = none ∧ H3 = H2) I2 ⟨rfl, rfl⟩) fun vu s3 ⟨u, H3, I3, pu, eu, e3⟩ => ?_
  subst eu e3
  refine thn (hst.run pins s3 σ H3 (fun o H4 => o = some (-1) ∧ H4 = H3) I3 ⟨1, rfl, -1, rfl, rfl, rfl⟩) fun vs s4 ⟨o, H4, I4, ps, eo, e4⟩ => ?_
  subst eo e4
  cases pl
  cases pu
  have I5 : Inv X pins σ H4 { s4 with heap := s4.heap.push { cls := .type "slice", data := .fields #[.none, .none, vs] } } := I4.kept (t' := s4.toks) fun b ob q => Heap.get?_push_of_some _ q
  obtain ⟨its, r, ht, hz⟩ := I5.tuple hx
  have hlen := r.length
  show wpAny (model X.prog X.w) X.A (subscriptTail e (.Slice none none (some (.UnaryOp .USub (.Constant (.int 1) k p1) p2)) p3) (.ref a) (.ref s4.heap.objs.size)) (EP X pins σ Q) X.xe { s4 with heap := s4.heap.push { cls := .type "slice", data := .fields #[.none, .none, vs] } }
  refine tail_any (ops := [.ref a, .ref s4.heap.objs.size]) ht.typeIs (PyProof.Rows.slot_tuple_getitem.lookup) ?_ (by with_unfolding_all rfl)
  refine getItem_tuple_rev ht (Heap.IsSliceOf.new _ .none .none vs) ps ?_ (by rw [List.size_toArray]; omega)
  refine ⟨.ref _, _, I5.laid (t' := s4.toks) (o := .tup xs.reverse) (fun b ob q => Heap.get?_push_of_some _ q) (Nat.le_refl _) ?_, rfl, q _ (I5.hok.fresh (Nat.le_refl _))⟩
  refine ⟨by rw [List.length_reverse]; exact hz, _, r.reverse, ?_⟩
  exact IsTup.new _ _
end
end K12R
namespace K12R
open PySem PySem.Spec PyProof.Rows L2
theorem meets_enumerate_newT (l : Addr) (items : Array Value) :
    Meets (Builtin.«enumerate.__new__» ⟨[.type "enumerate", .ref l], []⟩) (fun _ R s => s.heap.IsTuple l items ∧
      R (.ok (.ret (.ref (s.heap.push { cls := .type "tuple_iterator", data := .fields #[.ref l, .int 0 0] }).objs.size)))
        { s with heap := (s.heap.push { cls := .type "tuple_iterator", data := .fields #[.ref l, .int 0 0] }).push { cls := .type "enumerate", data := .fields #[.none, .bool false, .ref s.heap.objs.size, rawInt 0, .none, .none] } }) :=
  .of_wp fun prog w A R s h => by
    obtain ⟨hp, g, d, tk, os⟩ := s; obtain ⟨h1, h⟩ := h
    have hsub := sub_enumerate
    have q1 : ∀ {A' : Around} {E : Value → Shared → Prop} {Q : Value → Shared → Prop}, Q (.ref hp.objs.size) ⟨hp.push { cls := .type "tuple_iterator", data := .fields #[.ref l, .int 0 0] }, g, d, tk, os⟩ → wpAny (model prog w) A' (pyIter (.ref l)) Q E ⟨hp, g, d, tk, os⟩ :=
      fun q => (begins_tuple l items).iter prog w _ _ ⟨hp, g, d, tk, os⟩ _ h1 q
    wp_walk using q1
    refine wpAny_stack_any fun st => wpAny_pure ?_
    split
    · rename_i c _ _ _ _ _
      cases (c == Value.type "enumerate")
      · wp_walk using q1
        exact ⟨_, rfl, h⟩
      · wp_walk using q1
        exact ⟨_, rfl, h⟩
    · wp_walk using q1
      exact ⟨_, rfl, h⟩
section
variable {prog : Program} {w : World} {A : Around} {E : Value → Shared → Prop} {s : Shared}
theorem call_enumerate_tup {l : Addr} {items : Array Value} {Q : Value → Shared → Prop} (hL : s.heap.IsTuple l items)
    (h : ∀ h', IsEnum h' (s.heap.objs.size + 1) s.heap.objs.size 0 .none → h'.IsTupleIter s.heap.objs.size l 0 → h'.objs.size = s.heap.objs.size + 2 →
      (∀ b o, s.heap.get? b = some o → h'.get? b = some o) → Q (.ref (s.heap.objs.size + 1)) { s with heap := h' }) :
    wpAny (model prog w) A (call (.type "enumerate") [.ref l]) Q E s := by
  refine callType_new F.called_enumerate (by decide) (F.typeCall_enumerate_1 _) (F.newCall_enumerate_1 _) (fun obj => F.args_object_init_2 obj _) F.entry_enumerate_new
    (meets_enumerate_newT l items) ⟨hL, ?_⟩
  have hz : (s.heap.push { cls := .type "tuple_iterator", data := .fields #[.ref l, .int 0 0] }).objs.size = s.heap.objs.size + 1 := Heap.size_push ..
  show _ ∧ _
  rw [hz]
  have he : IsEnum ((s.heap.push { cls := .type "tuple_iterator", data := .fields #[.ref l, .int 0 0] }).push
      { cls := .type "enumerate", data := .fields #[.none, .bool false, .ref s.heap.objs.size, rawInt 0, .none, .none] }) (s.heap.objs.size + 1) s.heap.objs.size 0 .none := by
    have := Heap.get?_push_size (s.heap.push { cls := .type "tuple_iterator", data := .fields #[.ref l, .int 0 0] })
      (o := { cls := .type "enumerate", data := .fields #[.none, .bool false, .ref s.heap.objs.size, rawInt 0, .none, .none] }) rfl
    rw [hz] at this; exact this
  refine ⟨⟨_, he, rfl⟩, h _ he ⟨_, Heap.get?_push_of_some _ (Heap.get?_push_size _ rfl), rfl, rfl⟩ (by rw [Heap.size_push, hz]) fun b o x => Heap.get?_push_of_some _ (Heap.get?_push_of_some _ x)⟩
end
def ItT (K : PySem.W.Frag) (a : Addr) : It :=
  ⟨fun i H => ∃ (xs : List V) (x : V), SqT K H a xs ∧ xs[i]? = some x, fun i H v H' => ∃ T x, v = .ref T ∧ H T = none ∧ H' = upd H T (.tup [.int (i : Nat), x]) ∧ ∀ xs, SqT K H a xs → xs[i]? = some x, fun i H => ∃ xs : List V, SqT K H a xs ∧ xs.length = i⟩
theorem turn_enumT {P : Program} {w : World} {K : PySem.W.Frag} {elts : List Expr} {kk : Nat} {tpos : Pos} (a e it : Addr) (hai : a ≠ it) (hae : a ≠ e) :
    Turn P w K (.Tuple elts kk tpos) (ItT K a) [e, it] e (fun i h => (∃ old, IsEnum h e it ((i : Nat) : Int) old) ∧ h.IsTupleIter it a i ∧ e ≠ it) where
  mem := by simp
  obj := fun i h st b hb => by
    obtain ⟨⟨old, he⟩, ⟨o, ho, hc, hd⟩, _⟩ := st
    have e' : b = e ∨ b = it := by simpa using hb
    rcases e' with z | z
    · rw [z]; exact ⟨_, he, fun v q => nomatch q⟩
    · rw [z]; exact ⟨o, ho, fun v q => by rw [hd] at q; cases q⟩
  keep := fun i h h' st k => let ⟨⟨old, he⟩, hi, hne⟩ := st; ⟨⟨old, k e (by simp) _ he⟩, hi.at fun o q => k it (by simp) o q, hne⟩
  item := by
    intro X hP hw hK hc i pins s σ H E I hf st hg
    subst hP hw hK
    obtain ⟨⟨old, he⟩, hit, hne⟩ := st
    obtain ⟨xs, x, hq, hx⟩ := hg
    obtain ⟨its, rv, p, hz⟩ := I.tuple hq
    obtain ⟨u, hu, ru⟩ := rv.get hx
    have hel : e < s.heap.objs.size := Heap.lt_size he
    have hil : it < s.heap.objs.size := by obtain ⟨_, q, _⟩ := hit; exact Heap.lt_size q
    have D := Draws.tuple (prog := X.prog) (w := X.w) (A := X.A.in1) (I.ok.hd hc) it a hai its.toArray
    have hlt : i < its.toArray.size := by
      rw [List.size_toArray]
      exact (List.getElem?_eq_some_iff.mp hu).1
    refine wpAny_pyNext_enum_itemD D he ⟨hit, (show s.heap.IsTuple a its.toArray from p)⟩ hlt hne (by simp [hne, Ne.symm hae]) fun y h' tk hy ho hst' hT hsz hk => ?_
    obtain ⟨hit', _⟩ := hst'
    have ey : y = u := by
      have q : its.toArray[i]? = some y := hy
      rw [show its.toArray[i]? = its[i]? by simp, hu] at q
      exact (Option.some.inj q).symm
    subst ey
    refine ⟨_, rfl, wpAny_letOwnedTupleGo_enum (s := { s with heap := h', toks := tk + 1 }) ho fun h'' he' sb => ?_⟩
    have hT2 : h''.get? s.heap.objs.size = some { cls := .type "tuple", data := .seq #[.int i tk, y] } := (sb.2 _ (Nat.ne_of_gt hel)).trans hT
    have new : ObjOk X.prog X.w (upd H s.heap.objs.size (.tup [.int (i : Nat), x])) h'' s.heap.objs.size (.tup [.int (i : Nat), x]) :=
      ⟨by show 2 ≤ sizeLine; decide, [.int i tk, y], .cons ⟨_, rfl⟩ (.cons ru .nil), ⟨_, hT2, rfl, _, rfl⟩⟩
    have I1 : Inv X pins σ (upd H s.heap.objs.size (.tup [.int (i : Nat), x])) { s with heap := h'', toks := tk + 1 } :=
      I.turnedNew (ch := [e, it]) (fun b ob hb q => (sb.2 b (fun z => hb (by simp [z]))).trans (hk b ob (fun z => hb (by simp [z])) (fun z => hb (by simp [z])) q)) hf (Nat.le_refl _) new
    refine ⟨.ref s.heap.objs.size, _, I1, rfl, ⟨_, x, rfl, I.hok.fresh (Nat.le_refl _), rfl, fun ys hy => by rw [I.tuple_inj hy hq]; exact hx⟩, ⟨⟨y, ?_⟩, hit'.at fun o q => (sb.2 it (Ne.symm hne)).trans q, hne⟩, fun b hb => ?_⟩
    · have e1 : ((i + 1 : Nat) : Int) = (i : Int) + 1 := by omega
      rw [e1]; exact he'
    · have hb' : b < s.heap.objs.size := by
        have e' : b = e ∨ b = it := by simpa using hb
        rcases e' with z | z
        · rw [z]; exact hel
        · rw [z]; exact hil
      rw [upd_ne (Nat.ne_of_lt hb')]
      exact (hf b hb).1
  done := by
    intro X hP hw hK hc i pins s σ H E I hf st hg
    subst hP hw hK
    obtain ⟨⟨old, he⟩, hit, hne⟩ := st
    obtain ⟨xs, hq, hx⟩ := hg
    obtain ⟨its, rv, p, hz⟩ := I.tuple hq
    obtain ⟨f0, f1, f2, f3, f4, f5⟩ := hf it (by simp)
    have hl := rv.length
    have D := Draws.tuple (prog := X.prog) (w := X.w) (A := X.A.in1) (I.ok.hd hc) it a hai its.toArray
    have hsz : its.toArray.size = i := by rw [List.size_toArray, ← hl, hx]
    refine wpAny_pyNext_enum_endD D he ⟨by rw [hsz]; exact hit, (show s.heap.IsTuple a its.toArray from p)⟩ fun h' eb => ⟨rfl, I.turned (t' := s.toks) (fun b o hb q => eb b o hb q) f0 f1 f3 f4 f5⟩
  self := fun A i s Q E st h => let ⟨⟨_, he⟩, _⟩ := st; wpAny_pyIter_enum he h
def iEnumT (K : PySem.W.Frag) (ta : TA) : TI := fun σ H R => ta σ H fun vs H1 => ∃ a xs, vs = [.ref a] ∧ SqT K H1 a xs ∧ R (ItT K a) H1
theorem pi_enumT {X : Cx} {e : Expr} {ta : TA} {p pos tpos : Pos} {elts : List Expr} {kk : Nat} (hg : Gl X "enumerate") (hm : X.mg "enumerate" = none) (ha : PA X [e] ta) (hs : starEach [e] X.env = [(false, eval e X.env)] := by rfl) :
    PI X (.Tuple elts kk tpos) (.Call (.Name "enumerate" p) [e] [] pos) (iEnumT X.K ta) := by
  refine ⟨fun pins s σ H R I h => ?_⟩
  refine Call_ (ld_blt I hg hm boot_enumerate (PyProof.Rows.callWith_type1 (thn (ha.run pos pins s σ H _ I h) fun us s1 ⟨vs, H1, I1, r1, q1⟩ => ?_) hs rfl))
  obtain ⟨a, xs, ex, hq, q⟩ := q1
  subst ex
  cases r1 with
  | cons r rr =>
    cases rr
    cases r
    obtain ⟨its, rv, p', hz⟩ := I1.tuple hq
    have hlt : a < s1.heap.objs.size := by
      obtain ⟨o, ho, _⟩ := id p'
      exact Heap.lt_size ho
    refine call_enumerate_tup (show s1.heap.IsTuple a its.toArray from p') fun h' he hit hsz hk => wpAny_pyIter_enum he ?_
    have I2 : Inv X pins σ H1 { s1 with heap := h' } := I1.kept (t' := s1.toks) hk
    refine ⟨s1.heap.objs.size + 1, [s1.heap.objs.size + 1, s1.heap.objs.size], _, _, H1, rfl, I2, turn_enumT a (s1.heap.objs.size + 1) s1.heap.objs.size (Nat.ne_of_lt hlt) (Nat.ne_of_lt (Nat.lt_succ_of_lt hlt)), ⟨⟨.none, he⟩, hit, Nat.succ_ne_self _⟩, fun b hb => ?_, q⟩
    have e' : b = s1.heap.objs.size + 1 ∨ b = s1.heap.objs.size := by simpa using hb
    have hle : s1.heap.objs.size ≤ b := by
      rcases e' with z | z
      · rw [z]; exact Nat.le_add_right _ _
      · rw [z]; exact Nat.le_refl _
    exact I1.fpOk hle (I1.hok.fresh hle)
end K12R
namespace K12G
open PySem PySem.Spec PyProof.Rows L2 GenW
open Sem (wp)
section
variable {M : Model} {A : Around} {R : GenEnd} {Y : Protocol} {n : Nat} {s₀ : Shared} {c : Code} {fs : List Frame} {s : Shared} {env : Env}
  {K : Flow → Sem PySem.Fin} {H : Value → Sem PySem.Fin} {gd : Bool → Bool} {lv : List Value → List Value}
theorem seg_For {target iter : Expr} {body orelse : List Stmt} {pos : Pos} (hs : ∀ x, foldedSetIterable iter env x = pure x)
    (h : wpAny M (A.over c fs) (eval iter env) (fun x s₁ => wpAny M (A.over c fs) (pyIter x) (fun it s₂ => ∀ p, Seg M A R Y n s₀ (.forLoop target it body orelse env) (M.den (.forLoop target it body orelse env))
      (.ret (fun r => ((match r with | .ok f => (.pure f : Sem Flow) | .error e => .raise e).onRaise fun (x : Value) => do
        if (← field x 1) == Value.none then unsupported "frame.own-activation:exception-without-traceback"
        setFlight x env.frame).wrap K H gd lv) none (gd false) (lv []) c p [] :: fs) s₂) (fun x s' => Seg M A R Y n s₀ c (H x) fs s') s₁) (fun x s' => Seg M A R Y n s₀ c (H x) fs s') s) :
    Seg M A R Y n s₀ c ((exec (.For target iter body orelse pos) env).wrap K H gd lv) fs s := by
  rw [exec_For, Sem.bind_eq_wrap', Sem.wrap_wrap]
  refine seg_wrap (wpAny_standAt ?_)
  show Seg _ _ _ _ _ _ _ (Sem.wrap _ _ _ _ (eval iter env >>= _)) _ _
  rw [Sem.bind_eq_wrap', Sem.wrap_wrap]
  refine seg_wrap (wpAny_mono h (fun x s1 h1 => ?_) fun _ _ z => z)
  show Seg _ _ _ _ _ _ _ (Sem.wrap _ _ _ _ (foldedSetIterable iter env x >>= _)) _ _
  rw [hs x]
  show Seg _ _ _ _ _ _ _ (Sem.wrap _ _ _ _ (standAt iter.pos >>= _)) _ _
  rw [Sem.bind_eq_wrap', Sem.wrap_wrap]
  refine seg_wrap (wpAny_standAt ?_)
  show Seg _ _ _ _ _ _ _ (Sem.wrap _ _ _ _ (holding [x] (pyIter x) >>= _)) _ _
  rw [Sem.bind_eq_wrap', Sem.wrap_wrap]
  refine seg_wrap (wpAny_holding (wpAny_mono h1 (fun it s2 h2 => ?_) fun _ _ z => z))
  exact seg_call h2
end
section
variable {prog : Program} {w : World} {A : Around} {R : GenEnd} {Y : Protocol} {n : Nat} {s₀ : Shared} {fs : List Frame} {s : Shared} {env : Env}
theorem seg_forLoop {target : Expr} {it : Value} {body orelse : List Stmt}
    (h : wpAny (model prog w) (A.over (.forLoop target it body orelse env) fs) (pyNext it) (fun r s1 => match r with
        | none => Seg (model prog w) A R Y n s₀ (.forLoop target it body orelse env) (.pure (.again (.block orelse env))) fs s1
        | some v => wpAny (model prog w) (A.over (.forLoop target it body orelse env) fs) (letOwnedTupleGo target it v) (fun _ s2 => wpAny (model prog w) (A.over (.forLoop target it body orelse env) fs) (assign target env v) (fun _ s3 =>
            Seg (model prog w) A R Y n s₀ (.forLoop target it body orelse env) ((execs body env).wrap (fun f => match f with
              | .next | .cont => .pure (.again (.forLoop target it body orelse env))
              | .brk => .pure (.done .next)
              | .ret v => .pure (.done (.ret v))) (fun e => (do noteFrame e env; theTreesLotGoes e : Sem Unit).wrap (fun _ => .raise e) .raise id id) id id) fs s3)
            (fun x s' => Seg (model prog w) A R Y n s₀ (.forLoop target it body orelse env) ((do noteFrame x env; theTreesLotGoes x : Sem Unit).wrap (fun _ => .raise x) .raise id id) fs s') s2)
          (fun x s' => Seg (model prog w) A R Y n s₀ (.forLoop target it body orelse env) ((do noteFrame x env; theTreesLotGoes x : Sem Unit).wrap (fun _ => .raise x) .raise id id) fs s') s1)
      (fun x s' => Seg (model prog w) A R Y n s₀ (.forLoop target it body orelse env) ((do noteFrame x env; theTreesLotGoes x : Sem Unit).wrap (fun _ => .raise x) .raise id id) fs s') s) :
    Seg (model prog w) A R Y n s₀ (.forLoop target it body orelse env) ((model prog w).den (.forLoop target it body orelse env)) fs s := by
  have ee : ∀ (x : Value) (s' : Shared), Seg (model prog w) A R Y n s₀ (.forLoop target it body orelse env) ((do noteFrame x env; theTreesLotGoes x : Sem Unit).wrap (fun _ => .raise x) .raise id id) fs s' →
      Seg (model prog w) A R Y n s₀ (.forLoop target it body orelse env) ((do noteFrame x env; theTreesLotGoes x : Sem Unit).bind fun _ => .raise x) fs s' := fun x s' hx => by
    rw [Sem.bind_eq_wrap]
    exact hx
  show Seg _ A R Y n s₀ _ ((forTurn target it body orelse env).onRaise (fun x => do noteFrame x env; theTreesLotGoes x)) fs s
  unfold forTurn
  rw [Sem.onRaise_eq_wrap, Sem.bind_eq_wrap', Sem.wrap_wrap]
  refine seg_wrap (wpAny_standAt ?_)
  show Seg _ _ _ _ _ _ _ (Sem.wrap _ _ _ _ ((pyNext it).onRaise _ >>= _)) _ _
  rw [Sem.bind_eq_wrap', Sem.wrap_wrap]
  refine seg_wrap (wpAny_onRaise (wpAny_mono h (fun r s1 h1 => ?_) fun x s' hx => wpAny_standAt (ee x s' hx)))
  cases r with
  | none => exact h1
  | some v =>
    show Seg _ _ _ _ _ _ _ (Sem.wrap _ _ _ _ (letOwnedTupleGo target it v >>= _)) _ _
    rw [Sem.bind_eq_wrap', Sem.wrap_wrap]
    refine seg_wrap (wpAny_mono h1 (fun _ s2 h2 => ?_) fun x s' hx => ee x s' hx)
    show Seg _ _ _ _ _ _ _ (Sem.wrap _ _ _ _ (assign target env v >>= _)) _ _
    rw [Sem.bind_eq_wrap', Sem.wrap_wrap]
    refine seg_wrap (wpAny_mono h2 (fun _ s3 h3 => ?_) fun x s' hx => ee x s' hx)
    show Seg _ _ _ _ _ _ _ (Sem.wrap _ _ _ _ (execs body env >>= _)) _ _
    rw [Sem.bind_eq_wrap', Sem.wrap_wrap]
    rw [Sem.wrap_congr (execs body env) _ _ (K' := fun f => match f with
            | .next | .cont => .pure (.again (.forLoop target it body orelse env))
            | .brk => .pure (.done .next)
            | .ret v => .pure (.done (.ret v))) (H' := (fun e => (do noteFrame e env; theTreesLotGoes e : Sem Unit).wrap (fun _ => .raise e) .raise id id))
        (fun f => by cases f <;> rfl)
        (fun e => by first | exact Sem.bind_eq_wrap _ _ | (show (do noteFrame e env; theTreesLotGoes e : Sem Unit).bind (fun _ => .raise e) = _; rw [Sem.bind_eq_wrap]))]
    exact h3
end
section
variable {X : Cx} {pos : Pos}
def tGFor (wi : TI) (g : TG) (tb : TGn) : TGn := fun D ys σ H => wi σ H fun J H1 => ∃ W : Nat → Nat → List V → L2.St → Hp → Prop, (∃ m, W 0 m ys σ H1) ∧ ∀ i m ys σ H, W i m ys σ H →
  (J.stop i H ∧ D.nx ys σ H) ∨ (J.go i H ∧ ∃ N : List V → L2.St → Hp → Prop, (∀ ys' σ' H', N ys' σ' H' → ∃ m', m' < m ∧ W (i + 1) m' ys' σ' H') ∧ ∀ x H', J.yld i H x H' → g x σ H' fun σ2 H2 => tb { D with nx := N, ct := N, bk := D.nx } ys σ2 H2)
theorem GI.unpin {S : Addr} {ip pl : List (Addr × Obj)} {ys : List V} {σ : L2.St} {H : Hp} {s : Shared} (h : GI X S (ip ++ pl) ys σ H s) : GI X S ip ys σ H s := by
  obtain ⟨acc, c, r, I⟩ := h
  have I' : Inv X (((S, lstObj acc c) :: ip) ++ pl) σ H s := I
  exact ⟨acc, c, r, I'.unpinned⟩
theorem gs_for {tg iter : Expr} {body : List Stmt} {wi : TI} {g : TG} {tb : TGn} (hp : PassesOwn (model X.prog X.w) X.A X.env X.xe) (hc : X.calm = true) (hi : PI X tg iter wi) (hg : PG X tg g) (hb : GSs X body tb)
    (hs : ∀ x, foldedSetIterable iter X.env x = pure x := by intro _; rfl) : GS X (.For tg iter body [] pos) (tGFor wi g tb) := by
  refine ⟨fun A S ip R n ys s₀ c fs K J gd lv s σ H D gc hn k hI ht => ?_⟩
  obtain ⟨acc0, cc0, r0, I0⟩ := hI
  refine seg_For hs ?_
  rw [gc.over]
  refine wpAny_mono (hi.run _ s σ H _ I0 ht) (fun v s1 h1 => wpAny_mono h1 (fun itv s2 h2 => ?_) fun x s' hx => k.exc n s₀ x s' hx) fun x s' hx => k.exc n s₀ x s' hx
  obtain ⟨it, fp, tn, JJ, H2, e, I2, T, st2, f2, W, ⟨m0, w0⟩, turn⟩ := h2
  subst e
  intro p
  have gl := fun (kk : Result → Sem PySem.Fin) => gc_loop (k := kk) (c' := .forLoop tg (.ref it) body [] X.env) (l := lv []) (kp := []) (p := p) gc rfl rfl
  have fS : ∀ b ∈ fp, S ≠ b := fun b hb => (f2 b hb).2.2.2.2.2 (S, lstObj acc0 cc0) (List.mem_append_right _ List.mem_cons_self)
  have stat : ∀ {acc : Array Value} {cc : Nat} {H' : Hp}, (∀ b ∈ fp, H' b = none) → ∀ b ∈ fp, FpOk X ((S, lstObj acc cc) :: ip) H' b := fun {acc cc H'} hz b hb => by
    obtain ⟨_, a1, a2, a3, a4, a5⟩ := f2 b hb
    refine ⟨hz b hb, a1, a2, a3, a4, fun q hq => ?_⟩
    rcases List.mem_append.mp hq with z | z
    · exact a5 q (List.mem_append_left _ z)
    · rcases List.mem_cons.mp z with z | z
      · rw [z]; exact fS b hb
      · exact a5 q (List.mem_append_right _ (List.mem_cons_of_mem _ z))
  have loop : ∀ (m n i : Nat) (ys : List V) (s₀ s : Shared) (σ : L2.St) (H : Hp), n + ys.length = sizeLine → W i m ys σ H → GI X S ip ys σ H s → tn i s.heap → (∀ b ∈ fp, H b = none) →
      Seg (model X.prog X.w) A R (GY X S) n s₀ (.forLoop tg (.ref it) body [] X.env) ((model X.prog X.w).den (.forLoop tg (.ref it) body [] X.env))
        (.ret (fun r => ((match r with | .ok f => (.pure f : Sem Flow) | .error e => .raise e).onRaise (cameBack X.env)).wrap K J gd lv) none (gd false) (lv []) c p [] :: fs) s := by
    intro m
    induction m using Nat.strongRecOn with
    | ind m ih =>
      intro n i ys s₀ s σ H hn w hI st fr
      have ee : ∀ (n : Nat) (s₀ : Shared) (x : Value) (s' : Shared), X.xe x s' → Seg (model X.prog X.w) A R (GY X S) n s₀ (.forLoop tg (.ref it) body [] X.env)
          ((do noteFrame x X.env; theTreesLotGoes x : Sem Unit).wrap (fun _ => .raise x) .raise id id)
          (.ret (fun r => ((match r with | .ok f => (.pure f : Sem Flow) | .error e => .raise e).onRaise (cameBack X.env)).wrap K J gd lv) none (gd false) (lv []) c p [] :: fs) s' := fun n s₀ x s' hx => by
        refine seg_wrap ?_
        rw [(gl _).over]
        refine wpAny_bind (wpAny_mono (hp x s' hx) (fun _ s'' hcb => wpAny_theTreesLotGoes ?_) fun y s'' hcb => ?_)
        · exact seg_leaf (.error x) (seg_cameBack gc k hcb)
        · exact seg_leaf (.error y) (seg_cameBack gc k hcb)
      refine seg_forLoop ?_
      rw [(gl _).over]
      obtain ⟨acc, cc, r, I⟩ := hI
      rcases turn i m ys σ H w with ⟨stop, qn⟩ | ⟨go, N, hN, step⟩
      · refine wpAny_mono (T.done X rfl rfl rfl hc i _ s σ H X.xe I (stat fr) st stop) (fun r' s4 ⟨hr, I4⟩ => ?_) fun x s' hx => ee n s₀ x s' hx
        subst hr
        refine seg_again rfl ?_
        exact seg_leaf (.ok .next) (k.ok n ys s₀ s4 .next hn ⟨σ, H, ⟨acc, cc, r, I4⟩, qn⟩)
      · refine wpAny_mono (T.item X rfl rfl rfl hc i _ s σ H X.xe I (stat fr) st go) (fun r' s4 ⟨u, hr, h4⟩ => ?_) fun x s' hx => ee n s₀ x s' hx
        subst hr
        refine wpAny_mono h4 (fun _ s5 ⟨x, H5, I5, r5, y5, st5, fr5⟩ => ?_) fun x s' hx => ee n s₀ x s' hx
        have I5' := I5.pinned (stat fr5) (T.obj _ _ st5)
        refine wpAny_mono (hg.run _ s5 σ H5 x u _ I5' r5 (step x H5 y5)) (fun _ s6 ⟨σ6, H6, I6, q6⟩ => ?_) fun x s' hx => ee n s₀ x s' hx
        have gl2 : GC X S (ip ++ pinsAt fp s5.heap) A (.forLoop tg (.ref it) body [] X.env) (.ret (fun r => ((match r with | .ok f => (.pure f : Sem Flow) | .error e => .raise e).onRaise (cameBack X.env)).wrap K J gd lv) none (gd false) (lv []) c p [] :: fs) id :=
          ⟨gc.pn, fun q hq => (List.mem_append.mp hq).elim (fun z => gc.ip q z) (fun z => (fS q.1 (of_pinsAt z).1).symm), gc.apart, (gl _).over, (gl _).split, (gl _).guard, rfl⟩
        have again : ∀ {ys7 : List V} {s7 : Shared} {σ7 : L2.St} {H7 : Hp} {n' : Nat} {s₀' : Shared}, n' + ys7.length = sizeLine → GI X S (ip ++ pinsAt fp s5.heap) ys7 σ7 H7 s7 → N ys7 σ7 H7 →
            Seg (model X.prog X.w) A R (GY X S) n' s₀' (.forLoop tg (.ref it) body [] X.env) (.pure (.again (.forLoop tg (.ref it) body [] X.env)))
              (.ret (fun r => ((match r with | .ok f => (.pure f : Sem Flow) | .error e => .raise e).onRaise (cameBack X.env)).wrap K J gd lv) none (gd false) (lv []) c p [] :: fs) s7 := fun {ys7 s7 σ7 H7 n' s₀'} hn' G7 n7 => by
          obtain ⟨m', hm, w7⟩ := hN ys7 σ7 H7 n7
          obtain ⟨acc7, cc7, r7, I7⟩ := id G7
          refine seg_again rfl (ih m' hm n' (i + 1) ys7 s₀' s7 σ7 H7 hn' w7 (GI.unpin G7) (T.keep _ _ _ st5 fun b hb o e => (I7.pin (b, o) (List.mem_append_right _ (List.mem_cons_of_mem _ (List.mem_append_right _ (mem_pinsAt hb e))))).1) fun b hb => ?_)
          obtain ⟨o, e, d⟩ := T.obj _ _ st5 b hb
          exact (I7.pin (b, o) (List.mem_append_right _ (List.mem_cons_of_mem _ (List.mem_append_right _ (mem_pinsAt hb e))))).2.1
        refine hb.run A S (ip ++ pinsAt fp s5.heap) R n ys s₀ _ _ _ _ id id s6 σ6 H6 { D with nx := N, ct := N, bk := D.nx } gl2 hn ⟨fun n' ys' s₀' s7 f hn' hs7 => ?_, fun n' s₀' x s7 hx => ee n' s₀' x s7 hx⟩ ⟨acc, cc, r, I6⟩ q6
        cases f with
        | next =>
          obtain ⟨σ7, H7, G7, n7⟩ := hs7
          exact again hn' G7 n7
        | cont =>
          obtain ⟨σ7, H7, G7, n7⟩ := hs7
          exact again hn' G7 n7
        | brk =>
          obtain ⟨σ7, H7, G7, n7⟩ := hs7
          exact seg_leaf (.ok .next) (k.ok n' ys' s₀' s7 .next hn' ⟨σ7, H7, GI.unpin G7, n7⟩)
        | ret v =>
          obtain ⟨v7, σ7, H7, G7, rv, n7⟩ := hs7
          exact seg_leaf (.ok (.ret v)) (k.ok n' ys' s₀' s7 (.ret v) hn' ⟨v7, σ7, H7, GI.unpin G7, rv, n7⟩)
  exact loop m0 n 0 ys s₀ s2 σ H2 hn w0 ⟨acc0, cc0, r0, I2⟩ st2 fun b hb => (f2 b hb).1
end
end K12G
set_option Elab.async false
set_option linter.all false
set_option maxRecDepth 100000
set_option maxHeartbeats 4000000
/-! words as texts; data on heaps; loops by what is left; comprehensions -/
namespace K12
open PySem PySem.Spec PyProof.Rows L2 K12M
/-! ### words as texts -/
def sg (b : Bool) : Nat := if b then 100 else 111
theorem sg_inj {a b : Bool} (h : sg a = sg b) : a = b := by
  cases a <;> cases b <;> first | rfl | (exact absurd h (by decide))
def S (w : Wd) : Str := ⟨(w.map sg).toArray⟩
theorem S_len (w : Wd) : (S w).length = w.length := by
  show (w.map sg).toArray.size = w.length
  rw [List.size_toArray, List.length_map]
theorem S_list (w : Wd) : (S w).cps.toList = w.map sg := by
  show (w.map sg).toArray.toList = w.map sg
  rfl
theorem S_app (u v : Wd) : S u ++ S v = S (u ++ v) := by
  show (⟨(u.map sg).toArray ++ (v.map sg).toArray⟩ : Str) = ⟨((u ++ v).map sg).toArray⟩
  rw [List.map_append]
  congr 1
  apply Array.ext'
  simp
theorem S_rep (b : Bool) (k : Nat) : K12R.repC (sg b) k = S (List.replicate k b) := by
  show (⟨(List.replicate k (sg b)).toArray⟩ : Str) = ⟨((List.replicate k b).map sg).toArray⟩
  rw [List.map_replicate]
theorem map_sg_inj : ∀ {u v : Wd}, u.map sg = v.map sg → u = v
  | [], [], _ => rfl
  | [], _ :: _, h => by cases h
  | _ :: _, [], h => by cases h
  | a :: u, b :: v, h => by
    injection h with h1 h2
    rw [sg_inj h1, map_sg_inj h2]
theorem S_inj {u v : Wd} (h : S u = S v) : u = v := by
  refine map_sg_inj ?_
  rw [← S_list, ← S_list, h]
theorem S_ne {u v : Wd} (h : u ≠ v) : S u ≠ S v := fun e => h (S_inj e)
theorem S_dec (u v : Wd) : decide ((V.str (S u)) = V.str (S v)) = (u == v) := by
  by_cases h : u = v
  · subst h
    rw [decide_eq_true rfl]
    exact (beq_self_eq_true u).symm
  · rw [decide_eq_false (fun e => h (S_inj (V.str.inj e)))]
    exact (beq_eq_false_iff_ne.mpr h).symm
theorem lit_d : ("d" : Str) = S [true] := by decide +kernel
theorem lit_o : ("o" : Str) = S [false] := by decide +kernel
theorem lit_do : ("do" : Str) = S [true, false] := by decide +kernel
theorem lit_od : ("od" : Str) = S [false, true] := by decide +kernel
theorem lit_e : ("" : Str) = S [] := by decide +kernel
theorem S_cut (w : Wd) (i j : Nat) : cutS (S w) (some (i : Int)) (some (j : Int)) = S (cut w i j) := by
  unfold cutS
  rw [HT.sIx_nat, HT.sIx_nat, S_len, S_list]
  show (⟨((((w.map sg).drop (min i w.length)).take (min j w.length - min i w.length))).toArray⟩ : Str) = ⟨((((w.drop i).take (j - i))).map sg).toArray⟩
  rw [List.map_take, List.map_drop]
  congr 1
  apply Array.ext'
  show ((w.map sg).drop (min i w.length)).take (min j w.length - min i w.length) = ((w.map sg).drop i).take (j - i)
  have hl : (w.map sg).length = w.length := List.length_map ..
  generalize w.map sg = l at hl
  rw [← hl]
  by_cases hi : i ≤ l.length
  · rw [Nat.min_eq_left hi]
    by_cases hj : j ≤ l.length
    · rw [Nat.min_eq_left hj]
    · rw [Nat.min_eq_right (by omega)]
      rw [List.take_of_length_le (by rw [List.length_drop]; omega), List.take_of_length_le (by rw [List.length_drop]; omega)]
  · rw [Nat.min_eq_right (by omega : l.length ≤ i), List.drop_of_length_le (Nat.le_refl _), List.drop_of_length_le (by omega : l.length ≤ i)]
    simp
theorem S_take (w : Wd) (j : Nat) : cutS (S w) none (some (j : Int)) = S (w.take j) := by
  have h := S_cut w 0 j
  have e : cut w 0 j = w.take j := by unfold cut; rw [List.drop_zero, Nat.sub_zero]
  rw [e] at h
  rw [← h]
  unfold cutS
  rw [show HT.sIx (S w).length 0 none = 0 from rfl, show HT.sIx (S w).length 0 (some ((0 : Nat) : Int)) = min 0 _ from HT.sIx_nat _ _ _, Nat.zero_min]
theorem S_drop (w : Wd) (i : Nat) : cutS (S w) (some (i : Int)) none = S (w.drop i) := by
  have h := S_cut w i w.length
  have e : cut w i w.length = w.drop i := by
    unfold cut
    rw [List.take_of_length_le (by rw [List.length_drop]; exact Nat.le_refl _)]
  rw [e] at h
  rw [← h]
  unfold cutS
  rw [show HT.sIx (S w).length (S w).length none = (S w).length from rfl, show HT.sIx (S w).length (S w).length (some ((w.length : Nat) : Int)) = min w.length _ from HT.sIx_nat _ _ _, S_len, Nat.min_self]
theorem countIn_cnt (b : Bool) : ∀ w : Wd, PyProof.Rows.cnt (sg b) (w.map sg) = (w.count b : Nat)
  | [] => rfl
  | a :: w => by
    rw [List.map_cons, PyProof.Rows.cnt_cons, countIn_cnt b w, List.count_cons]
    by_cases h : a = b
    · subst h
      rw [if_pos rfl, if_pos (beq_self_eq_true a)]
      omega
    · rw [if_neg (fun e => h (sg_inj e)), if_neg (by simpa using h)]
      omega
theorem S_count (w : Wd) (b : Bool) : Txt.count (S w) (S [b]) = (w.count b : Nat) := by
  show Txt.count (S w) ⟨#[sg b]⟩ = _
  rw [PyProof.Rows.count_is, S_list]
  exact countIn_cnt b w
theorem S_at (w : Wd) (i : Nat) (h : i < w.length) : atI (S w).cps.toList (i : Int) = some (sg (w.getD i false)) := by
  rw [S_list]
  refine atI_nat ?_
  rw [List.getElem?_map, List.getElem?_eq_getElem h]
  show some (sg w[i]) = _
  rw [List.getD_eq_getElem?_getD, List.getElem?_eq_getElem h]
  rfl
/-! ### heaps -/
theorem same_new {H : Hp} {p : Addr} {o : HO} (h : H p = none) : Same H (upd H p o) := fun b x e => by
  rw [upd_ne (ne_of_none e h)]
  exact e
/-- a thing that H does not know may change in what extends it -/
theorem same_mut {H H' : Hp} {p : Addr} {o : HO} (e : Same H H') (h : H p = none) : Same H (upd H' p o) := fun b x hb => by
  rw [upd_ne (ne_of_none hb h)]
  exact e b x hb
/-- what H' has more than H -/
def nw (H H' : Hp) : Hp := fun b => match H b with
  | some _ => none
  | none => H' b
theorem nw_at {H H' : Hp} {b : Addr} (h : H b = none) : nw H H' b = H' b := by
  unfold nw
  rw [h]
theorem nw_of {H H' : Hp} {b : Addr} {o : HO} (h : nw H H' b = some o) : H b = none ∧ H' b = some o := by
  unfold nw at h
  cases e : H b with
  | none =>
    rw [e] at h
    exact ⟨rfl, h⟩
  | some u =>
    rw [e] at h
    cases h
theorem nw_sub {H H' : Hp} : Same (nw H H') H' := fun _ _ h => (nw_of h).2
/-- a part of H1 new to H0 -/
structure Frz (H0 H1 F : Hp) : Prop where
  sub : Same F H1
  new : ∀ b o, F b = some o → H0 b = none
theorem Frz.none {H0 H1 : Hp} : Frz H0 H1 (fun _ => Option.none) := ⟨fun _ _ h => (by cases h), fun _ _ h => (by cases h)⟩
theorem Frz.nw {H0 H1 F : Hp} (z : Frz H0 H1 F) : Same F (nw H0 H1) := fun b o h => by
  rw [nw_at (z.new b o h)]
  exact z.sub b o h
theorem Frz.mono {H0 H1 H2 F : Hp} (z : Frz H0 H1 F) (e : Same H1 H2) : Frz H0 H2 F := ⟨z.sub.trans e, z.new⟩
theorem Frz.self {H0 H1 : Hp} : Frz H0 H1 (K12.nw H0 H1) := ⟨nw_sub, fun _ _ h => (nw_of h).1⟩
/-- F and G joined -/
def jn (F G : Hp) : Hp := fun b => match F b with
  | some o => some o
  | none => G b
theorem jn_l {F G : Hp} : Same F (jn F G) := fun b o h => by
  unfold jn
  rw [h]
theorem jn_r {F G H : Hp} (a : Same F H) (c : Same G H) : Same G (jn F G) := fun b o h => by
  unfold jn
  cases e : F b with
  | none => exact h
  | some u =>
    have h1 := a b u e
    have h2 := c b o h
    rw [h1] at h2
    exact h2
theorem jn_of {F G : Hp} {b : Addr} {o : HO} (h : jn F G b = some o) : F b = some o ∨ G b = some o := by
  unfold jn at h
  cases e : F b with
  | none =>
    rw [e] at h
    exact .inr h
  | some u =>
    rw [e] at h
    exact .inl h
theorem jn_none {F G : Hp} {b : Addr} (h1 : F b = none) (h2 : G b = none) : jn F G b = none := by
  unfold jn
  rw [h1]
  exact h2
theorem Frz.jn {H0 H1 F G : Hp} (a : Frz H0 H1 F) (c : Frz H0 H1 G) : Frz H0 H1 (K12.jn F G) := ⟨fun b o h => (jn_of h).elim (a.sub b o) (c.sub b o), fun b o h => (jn_of h).elim (a.new b o) (c.new b o)⟩
/-- a call's new things joined to what was frozen -/
theorem Frz.call {H0 H1 H2 F : Hp} (a : Frz H0 H1 F) (e0 : Same H0 H1) (e : Same H1 H2) : Frz H0 H2 (K12.jn F (K12.nw H1 H2)) :=
  (a.mono e).jn ⟨nw_sub, fun b o h => by
    cases q : H0 b with
    | none => rfl
    | some u =>
      have h1 := e0 b u q
      rw [(nw_of h).1] at h1
      cases h1⟩
theorem call_r {H1 H2 F : Hp} (a : Same F H1) (e : Same H1 H2) : Same (nw H1 H2) (jn F (nw H1 H2)) := jn_r (a.trans e) nw_sub
theorem call_no {H1 H2 F : Hp} {D : Addr} {o : HO} (hF : F D = none) (hD : H1 D = some o) : jn F (nw H1 H2) D = none := by
  refine jn_none hF ?_
  unfold nw
  rw [hD]
/-! ### data -/
theorem seqT_same {K : PySem.W.Frag} {H H' : Hp} {a : Addr} {xs : List V} (e : Same H H') (h : SqT K H a xs) : SqT K H' a xs := by
  rcases h with (h | ⟨o, h⟩) | h
  · exact .inl (.inl (e _ _ h))
  · exact .inl (.inr ⟨o, e _ _ h⟩)
  · exact .inr h
mutual
theorem dp_same {K : PySem.W.Frag} {H H' : Hp} (e : Same H H') : ∀ (d : PyData) (v : V), Dp K H v d → Dp K H' v d
  | .none, _, h => by cases h; exact .non
  | .bool b, _, h => by cases h; exact .bl b
  | .int i, _, h => by cases h; exact .int i
  | .str x, _, h => by cases h; exact .str x
  | .list ds, _, h => by
    cases h with
    | lst hs ha => exact .lst (e.seq hs) (dpA_same e ds _ ha)
  | .tuple ds, _, h => by
    cases h with
    | tup hs ha => exact .tup (seqT_same e hs) (dpA_same e ds _ ha)
  | .dict _, _, h => by cases h
theorem dpA_same {K : PySem.W.Frag} {H H' : Hp} (e : Same H H') : ∀ (ds : List PyData) (vs : List V), DpAll K H vs ds → DpAll K H' vs ds
  | [], _, h => by cases h; exact .nil
  | d :: ds, _, h => by
    cases h with
    | cons h1 h2 => exact .cons (dp_same e d _ h1) (dpA_same e ds _ h2)
end
theorem Dp.same {K : PySem.W.Frag} {H H' : Hp} {d : PyData} {v : V} (h : Dp K H v d) (e : Same H H') : Dp K H' v d := dp_same e d v h
theorem DpAll.same {K : PySem.W.Frag} {H H' : Hp} {ds : List PyData} {vs : List V} (h : DpAll K H vs ds) (e : Same H H') : DpAll K H' vs ds := dpA_same e ds vs h
theorem dpA_len {K : PySem.W.Frag} {H : Hp} : ∀ {xs : List V} {ds : List PyData}, DpAll K H xs ds → xs.length = ds.length
  | _, _, .nil => rfl
  | _, _, .cons _ t => by rw [List.length_cons, List.length_cons, dpA_len t]
theorem dpA_app {K : PySem.W.Frag} {H : Hp} : ∀ {xs ys : List V} {ds es : List PyData}, DpAll K H xs ds → DpAll K H ys es → DpAll K H (xs ++ ys) (ds ++ es)
  | _, _, _, _, .nil, h => h
  | _, _, _, _, .cons a t, h => .cons a (dpA_app t h)
theorem dpA_get {K : PySem.W.Frag} {H : Hp} : ∀ {xs : List V} {ds : List PyData} {i : Nat} {d : PyData}, DpAll K H xs ds → ds[i]? = some d → ∃ v, xs[i]? = some v ∧ Dp K H v d
  | _, _, _, _, .nil, h => by simp at h
  | _, _, 0, _, .cons a t, h => by
    simp at h
    subst h
    exact ⟨_, rfl, a⟩
  | _, _, i + 1, d, .cons a t, h => by
    obtain ⟨v, h1, h2⟩ := dpA_get (i := i) (d := d) t (by simpa using h)
    exact ⟨v, by simpa using h1, h2⟩
theorem dpA_at {K : PySem.W.Frag} {H : Hp} : ∀ {xs : List V} {ds : List PyData} {i : Nat} {v : V}, DpAll K H xs ds → xs[i]? = some v → ∃ d, ds[i]? = some d ∧ Dp K H v d
  | _, _, _, _, .nil, h => by simp at h
  | _, _, 0, _, .cons a t, h => by
    simp at h
    subst h
    exact ⟨_, rfl, a⟩
  | _, _, i + 1, d, .cons a t, h => by
    obtain ⟨v, h1, h2⟩ := dpA_at (i := i) (v := d) t (by simpa using h)
    exact ⟨v, by simpa using h1, h2⟩
theorem dpA_rev {K : PySem.W.Frag} {H : Hp} : ∀ {xs : List V} {ds : List PyData}, DpAll K H xs ds → DpAll K H xs.reverse ds.reverse
  | _, _, .nil => .nil
  | _, _, .cons a t => by
    rw [List.reverse_cons, List.reverse_cons]
    exact dpA_app (dpA_rev t) (.cons a .nil)
theorem dpA_ints {K : PySem.W.Frag} {H : Hp} : ∀ (ns : List Int), DpAll K H (ns.map V.int) (ns.map PyData.int)
  | [] => .nil
  | n :: ns => .cons (.int n) (dpA_ints ns)
theorem ints_dpA {K : PySem.W.Frag} {H : Hp} : ∀ {vs : List V} (ns : List Int), DpAll K H vs (ns.map PyData.int) → vs = ns.map V.int
  | _, [], h => by cases h; rfl
  | _, n :: ns, h => by
    cases h with
    | cons h1 h2 =>
      cases h1
      rw [ints_dpA ns h2]
      rfl
theorem dp_tup {K : PySem.W.Frag} {H : Hp} {p : Addr} {vs : List V} {ds : List PyData} (h : H p = some (.tup vs)) (hd : DpAll K H vs ds) : Dp K H (.ref p) (.tuple ds) := .tup (.inl (.inl h)) hd
theorem dp_lst {K : PySem.W.Frag} {H : Hp} {p : Addr} {vs : List V} {ds : List PyData} (h : H p = some (.lst vs)) (hd : DpAll K H vs ds) : Dp K H (.ref p) (.list ds) := .lst (.inl (.inl h)) hd
theorem sqL_of {K : PySem.W.Frag} {H : Hp} {p : Addr} {vs : List V} (h : H p = some (.lst vs)) : SqL K H p vs := .inl (.inl h)
theorem sqT_of {K : PySem.W.Frag} {H : Hp} {p : Addr} {vs : List V} (h : H p = some (.tup vs)) : SqT K H p vs := .inl (.inl h)
theorem dp_tupI {K : PySem.W.Frag} {H : Hp} {v : V} {ds : List PyData} (h : Dp K H v (.tuple ds)) : ∃ a xs, v = .ref a ∧ SqT K H a xs ∧ DpAll K H xs ds := by
  cases h with
  | tup hs ha => exact ⟨_, _, rfl, hs, ha⟩
theorem dp_lstI {K : PySem.W.Frag} {H : Hp} {v : V} {ds : List PyData} (h : Dp K H v (.list ds)) : ∃ a xs, v = .ref a ∧ SqL K H a xs ∧ DpAll K H xs ds := by
  cases h with
  | lst hs ha => exact ⟨_, _, rfl, hs, ha⟩
theorem dp_strI {K : PySem.W.Frag} {H : Hp} {v : V} {x : Str} (h : Dp K H v (.str x)) : v = .str x := by cases h; rfl
theorem dp_intI {K : PySem.W.Frag} {H : Hp} {v : V} {i : Int} (h : Dp K H v (.int i)) : v = .int i := by cases h; rfl
theorem small {n : Nat} (h : n ≤ 10000) : n ≤ sizeLine := Nat.le_trans h (by decide)
theorem small' {n : Nat} (h : n ≤ 10000) : n < sizeLine := Nat.lt_of_le_of_lt h (by decide)
/-! ### loops by what is left -/
section
variable {K : PySem.W.Frag} {a : Addr} {xs : List V} {g : TG} {tb : TS} {D : Ends} {σ : L2.St} {H F : Hp} {ds : List PyData}
theorem drop_at {α : Type} {l : List α} {i : Nat} {x : α} (h : l[i]? = some x) : l.drop i = x :: l.drop (i + 1) := by
  obtain ⟨h1, h2⟩ := List.getElem?_eq_some_iff.mp h
  rw [List.drop_eq_getElem_cons h1, h2]
/-- over a list of data that stands in F, a part of every heap of the loop -/
theorem for_listD (hq : SqL K F a xs) (hd : DpAll K F xs ds) (Pv : List PyData → L2.St → Hp → Prop) (hF : ∀ r σ H, Pv r σ H → Same F H) (h0 : Pv ds σ H)
    (hs : ∀ d r v σ H, Pv (d :: r) σ H → Dp K F v d → g v σ H fun σ2 H2 => tb { D with nx := Pv r, ct := Pv r, bk := D.nx } σ2 H2) (he : ∀ σ H, Pv [] σ H → D.nx σ H) :
    ∃ W : Nat → Nat → L2.St → Hp → Prop, (∃ m, W 0 m σ H) ∧ ∀ i m σ H, W i m σ H →
      ((Itl K a).stop i H ∧ D.nx σ H) ∨ ((Itl K a).go i H ∧ ∃ N : L2.St → Hp → Prop, (∀ σ' H', N σ' H' → ∃ m', m' < m ∧ W (i + 1) m' σ' H') ∧ ∀ x H', (Itl K a).yld i H x H' → g x σ H' fun σ2 H2 => tb { D with nx := N, ct := N, bk := D.nx } σ2 H2) := by
  refine for_list (xs := xs) (fun i σ H => Pv (ds.drop i) σ H) h0 (fun i σ H _ p => (hF _ _ _ p).seq hq) (fun i x σ H hx p => ?_) fun σ H p => ?_
  · obtain ⟨d, e, hv⟩ := dpA_at hd hx
    rw [drop_at e] at p
    exact hs d _ x σ H p hv
  · rw [List.drop_of_length_le (by rw [dpA_len hd]; exact Nat.le_refl _)] at p
    exact he σ H p
theorem for_tupD (hq : SqT K F a xs) (hd : DpAll K F xs ds) (Pv : List PyData → L2.St → Hp → Prop) (hF : ∀ r σ H, Pv r σ H → Same F H) (h0 : Pv ds σ H)
    (hs : ∀ d r v σ H, Pv (d :: r) σ H → Dp K F v d → g v σ H fun σ2 H2 => tb { D with nx := Pv r, ct := Pv r, bk := D.nx } σ2 H2) (he : ∀ σ H, Pv [] σ H → D.nx σ H) :
    ∃ W : Nat → Nat → L2.St → Hp → Prop, (∃ m, W 0 m σ H) ∧ ∀ i m σ H, W i m σ H →
      ((Itt K a).stop i H ∧ D.nx σ H) ∨ ((Itt K a).go i H ∧ ∃ N : L2.St → Hp → Prop, (∀ σ' H', N σ' H' → ∃ m', m' < m ∧ W (i + 1) m' σ' H') ∧ ∀ x H', (Itt K a).yld i H x H' → g x σ H' fun σ2 H2 => tb { D with nx := N, ct := N, bk := D.nx } σ2 H2) := by
  refine for_tup (xs := xs) (fun i σ H => Pv (ds.drop i) σ H) h0 (fun i σ H _ p => seqT_same (hF _ _ _ p) hq) (fun i x σ H hx p => ?_) fun σ H p => ?_
  · obtain ⟨d, e, hv⟩ := dpA_at hd hx
    rw [drop_at e] at p
    exact hs d _ x σ H p hv
  · rw [List.drop_of_length_le (by rw [dpA_len hd]; exact Nat.le_refl _)] at p
    exact he σ H p
/-- over a word's signs -/
theorem for_word {w : Wd} (Pv : Wd → L2.St → Hp → Prop) (h0 : Pv w σ H)
    (hs : ∀ b r σ H, Pv (b :: r) σ H → g (.str (S [b])) σ H fun σ2 H2 => tb { D with nx := Pv r, ct := Pv r, bk := D.nx } σ2 H2) (he : ∀ σ H, Pv [] σ H → D.nx σ H) :
    ∃ W : Nat → Nat → L2.St → Hp → Prop, (∃ m, W 0 m σ H) ∧ ∀ i m σ H, W i m σ H →
      ((Its (S w)).stop i H ∧ D.nx σ H) ∨ ((Its (S w)).go i H ∧ ∃ N : L2.St → Hp → Prop, (∀ σ' H', N σ' H' → ∃ m', m' < m ∧ W (i + 1) m' σ' H') ∧ ∀ x H', (Its (S w)).yld i H x H' → g x σ H' fun σ2 H2 => tb { D with nx := N, ct := N, bk := D.nx } σ2 H2) := by
  have hl : (S w).cps.size = w.length := S_len w
  refine ⟨fun i m σ H => m = w.length - i ∧ i ≤ w.length ∧ Pv (w.drop i) σ H, ⟨w.length, by simp, Nat.zero_le _, h0⟩, ?_⟩
  rintro i m σ H ⟨rfl, hi, p⟩
  by_cases hlt : i < w.length
  · refine .inr ⟨by show i < (S w).cps.size; omega, fun σ' H' => Pv (w.drop (i + 1)) σ' H', fun σ' H' p' => ⟨w.length - (i + 1), by omega, rfl, hlt, p'⟩, fun x H' y => ?_⟩
    obtain ⟨e, c, hc, ex⟩ := y
    subst e
    have e1 : w[i]? = some w[i] := List.getElem?_eq_getElem hlt
    rw [drop_at e1] at p
    have e2 : x = .str (S [w[i]]) := by
      rw [ex]
      have q : (S w).cps.toList[i]? = some c := by rw [Array.getElem?_toList]; exact hc
      rw [S_list, List.getElem?_map, e1] at q
      have q2 : sg w[i] = c := Option.some.inj q
      rw [← q2]
      rfl
    rw [e2]
    exact hs _ _ σ _ p
  · have e : i = w.length := by omega
    subst e
    rw [List.drop_of_length_le (Nat.le_refl _)] at p
    exact .inl ⟨by show (S w).cps.size ≤ w.length; omega, he σ H p⟩
end
/-! ### comprehensions by what is left and what is made -/
section
variable {K : PySem.W.Frag} {a : Addr} {xs : List V} {g : TG} {tt : TT} {te : TE} {vs : List Nat} {σ : L2.St} {H1 F : Hp} {D : Addr} {Qd : Hp → Prop} {ds : List PyData}
/-- what is made so far stands at D -/
def LcN (R : List V → Hp → Prop) (D : Addr) (H : Hp) : Prop := ∃ acc, H D = some (.lst acc) ∧ R acc H
/-- one turn -/
def LcTurn (g : TG) (tt : TT) (te : TE) (vs : List Nat) (σ : L2.St) (D : Addr) (v : V) (H : Hp) (R : List V → Hp → Prop) : Prop :=
  g v (wipe σ vs) H fun σ2 H2 => wipe σ2 vs = wipe σ vs ∧ tt σ2 H2 fun b H3 => if b = true then te σ2 H3 fun y H4 => ∃ acc, H4 D = some (.lst acc) ∧ acc.length < sizeLine ∧ LcN R D (upd H4 D (.lst (acc ++ [y]))) else LcN R D H3
theorem lc_listR (hq : SqL K F a xs) (hd : DpAll K F xs ds) (R : List PyData → List V → Hp → Prop) (hF : ∀ r acc H, R r acc H → Same F H) (h0 : R ds [] (upd H1 D (.lst [])))
    (hs : ∀ d r acc v H, H D = some (.lst acc) → R (d :: r) acc H → Dp K F v d → LcTurn g tt te vs σ D v H (R r)) (he : ∀ acc H, H D = some (.lst acc) → R [] acc H → Qd H) :
    ∃ W : Nat → Nat → Hp → Prop, (∃ m, W 0 m (upd H1 D (.lst []))) ∧ ∀ i m H, W i m H →
      ((Itl K a).stop i H ∧ Qd H) ∨ ((Itl K a).go i H ∧ ∃ Nx : Hp → Prop, (∀ H', Nx H' → ∃ m', m' < m ∧ W (i + 1) m' H') ∧ ∀ x H', (Itl K a).yld i H x H' → g x (wipe σ vs) H' fun σ2 H2 => wipe σ2 vs = wipe σ vs ∧ tt σ2 H2 fun b H3 =>
        if b = true then te σ2 H3 fun y H4 => ∃ acc, H4 D = some (.lst acc) ∧ acc.length < sizeLine ∧ Nx (upd H4 D (.lst (acc ++ [y]))) else Nx H3) := by
  refine lc_list (xs := xs) (fun i H => ∃ acc, H D = some (.lst acc) ∧ R (ds.drop i) acc H) ⟨[], upd_same, h0⟩ (fun i H _ ⟨acc, _, p⟩ => (hF _ _ _ p).seq hq) (fun i x H hx ⟨acc, e0, p⟩ => ?_) fun H ⟨acc, e0, p⟩ => ?_
  · obtain ⟨d, e, hv⟩ := dpA_at hd hx
    rw [drop_at e] at p
    exact hs d _ acc x H e0 p hv
  · rw [List.drop_of_length_le (by rw [dpA_len hd]; exact Nat.le_refl _)] at p
    exact he acc H e0 p
theorem lc_tupR (hq : SqT K F a xs) (hd : DpAll K F xs ds) (R : List PyData → List V → Hp → Prop) (hF : ∀ r acc H, R r acc H → Same F H) (h0 : R ds [] (upd H1 D (.lst [])))
    (hs : ∀ d r acc v H, H D = some (.lst acc) → R (d :: r) acc H → Dp K F v d → LcTurn g tt te vs σ D v H (R r)) (he : ∀ acc H, H D = some (.lst acc) → R [] acc H → Qd H) :
    ∃ W : Nat → Nat → Hp → Prop, (∃ m, W 0 m (upd H1 D (.lst []))) ∧ ∀ i m H, W i m H →
      ((Itt K a).stop i H ∧ Qd H) ∨ ((Itt K a).go i H ∧ ∃ Nx : Hp → Prop, (∀ H', Nx H' → ∃ m', m' < m ∧ W (i + 1) m' H') ∧ ∀ x H', (Itt K a).yld i H x H' → g x (wipe σ vs) H' fun σ2 H2 => wipe σ2 vs = wipe σ vs ∧ tt σ2 H2 fun b H3 =>
        if b = true then te σ2 H3 fun y H4 => ∃ acc, H4 D = some (.lst acc) ∧ acc.length < sizeLine ∧ Nx (upd H4 D (.lst (acc ++ [y]))) else Nx H3) := by
  refine lc_tup (xs := xs) (fun i H => ∃ acc, H D = some (.lst acc) ∧ R (ds.drop i) acc H) ⟨[], upd_same, h0⟩ (fun i H _ ⟨acc, _, p⟩ => seqT_same (hF _ _ _ p) hq) (fun i x H hx ⟨acc, e0, p⟩ => ?_) fun H ⟨acc, e0, p⟩ => ?_
  · obtain ⟨d, e, hv⟩ := dpA_at hd hx
    rw [drop_at e] at p
    exact hs d _ acc x H e0 p hv
  · rw [List.drop_of_length_le (by rw [dpA_len hd]; exact Nat.le_refl _)] at p
    exact he acc H e0 p
theorem lc_rangeR {lo : Int} {n : Nat} (R : Nat → List V → Hp → Prop) (h0 : R 0 [] (upd H1 D (.lst [])))
    (hs : ∀ i acc H, i < n → H D = some (.lst acc) → R i acc H → LcTurn g tt te vs σ D (.int (lo + (i : Nat))) H (R (i + 1))) (he : ∀ acc H, H D = some (.lst acc) → R n acc H → Qd H) :
    ∃ W : Nat → Nat → Hp → Prop, (∃ m, W 0 m (upd H1 D (.lst []))) ∧ ∀ i m H, W i m H →
      ((Itr lo n).stop i H ∧ Qd H) ∨ ((Itr lo n).go i H ∧ ∃ Nx : Hp → Prop, (∀ H', Nx H' → ∃ m', m' < m ∧ W (i + 1) m' H') ∧ ∀ x H', (Itr lo n).yld i H x H' → g x (wipe σ vs) H' fun σ2 H2 => wipe σ2 vs = wipe σ vs ∧ tt σ2 H2 fun b H3 =>
        if b = true then te σ2 H3 fun y H4 => ∃ acc, H4 D = some (.lst acc) ∧ acc.length < sizeLine ∧ Nx (upd H4 D (.lst (acc ++ [y]))) else Nx H3) := by
  refine lc_range (fun i H => ∃ acc, H D = some (.lst acc) ∧ R i acc H) ⟨[], upd_same, h0⟩ (fun i H hi ⟨acc, e0, p⟩ => ?_) fun H ⟨acc, e0, p⟩ => he acc H e0 p
  exact hs i acc H hi e0 p
theorem lc_wordR {w : Wd} (R : Wd → List V → Hp → Prop) (h0 : R w [] (upd H1 D (.lst [])))
    (hs : ∀ b r acc H, H D = some (.lst acc) → R (b :: r) acc H → LcTurn g tt te vs σ D (.str (S [b])) H (R r)) (he : ∀ acc H, H D = some (.lst acc) → R [] acc H → Qd H) :
    ∃ W : Nat → Nat → Hp → Prop, (∃ m, W 0 m (upd H1 D (.lst []))) ∧ ∀ i m H, W i m H →
      ((Its (S w)).stop i H ∧ Qd H) ∨ ((Its (S w)).go i H ∧ ∃ Nx : Hp → Prop, (∀ H', Nx H' → ∃ m', m' < m ∧ W (i + 1) m' H') ∧ ∀ x H', (Its (S w)).yld i H x H' → g x (wipe σ vs) H' fun σ2 H2 => wipe σ2 vs = wipe σ vs ∧ tt σ2 H2 fun b H3 =>
        if b = true then te σ2 H3 fun y H4 => ∃ acc, H4 D = some (.lst acc) ∧ acc.length < sizeLine ∧ Nx (upd H4 D (.lst (acc ++ [y]))) else Nx H3) := by
  have hl : (S w).cps.size = w.length := S_len w
  refine ⟨fun i m H => m = w.length - i ∧ i ≤ w.length ∧ ∃ acc, H D = some (.lst acc) ∧ R (w.drop i) acc H, ⟨w.length, by simp, Nat.zero_le _, [], upd_same, h0⟩, ?_⟩
  rintro i m H ⟨rfl, hi, acc, e0, p⟩
  by_cases hlt : i < w.length
  · refine .inr ⟨by show i < (S w).cps.size; omega, fun H' => ∃ acc, H' D = some (.lst acc) ∧ R (w.drop (i + 1)) acc H', fun H' p' => ⟨w.length - (i + 1), by omega, rfl, hlt, p'⟩, fun x H' y => ?_⟩
    obtain ⟨e, c, hc, ex⟩ := y
    subst e
    have e1 : w[i]? = some w[i] := List.getElem?_eq_getElem hlt
    rw [drop_at e1] at p
    have e2 : x = .str (S [w[i]]) := by
      rw [ex]
      have q : (S w).cps.toList[i]? = some c := by rw [Array.getElem?_toList]; exact hc
      rw [S_list, List.getElem?_map, e1] at q
      have q2 : sg w[i] = c := Option.some.inj q
      rw [← q2]
      rfl
    rw [e2]
    exact hs _ _ acc _ e0 p
  · have e : i = w.length := by omega
    subst e
    rw [List.drop_of_length_le (Nat.le_refl _)] at p
    exact .inl ⟨by show (S w).cps.size ≤ w.length; omega, he acc H e0 p⟩
end
end K12
set_option Elab.async false
set_option linter.all false
set_option maxRecDepth 100000
set_option maxHeartbeats 4000000
/-! what the walks lean on: the text by places, the top's facts, a def with its promise -/
namespace K12
open PySem PySem.Spec PyProof.Rows L2 K12M
/-! ### the text by places -/
def top (i : Nat) : Stmt := PySem.Challenge.pw_slitstairs_k12_whole_fewest_pulls_are_th.main.body.getD i (.Pass ⟨0, 0, 0, 0⟩)
/-! ### the top's facts -/
structure Txt (K : PySem.W.Frag) (mg : Str → Option Value) (C : Addr) : Prop where
  isinstance_ : mg "isinstance" = none
  len_ : mg "len" = none
  str_ : mg "str" = none
  int_ : mg "int" = none
  bool_ : mg "bool" = none
  list_ : mg "list" = none
  tuple_ : mg "tuple" = none
  range_ : mg "range" = none
  enumerate_ : mg "enumerate" = none
  reversed_ : mg "reversed" = none
  sorted_ : mg "sorted" = none
  abs_ : mg "abs" = none
  max_ : mg "max" = none
  all_ : mg "all" = none
  mS : ∃ t, mg "MOST_SIZE" = some (.int 6 t)
  cl : Cls K C
  nW : NoAttr K C "word"
  nS : NoAttr K C "size"
  mgC : mg "Column" = some (.ref C)
/-- a def of the module as the top left it; with its promise -/
def Df (K : PySem.W.Frag) (mg : Str → Option Value) (x : Str) (st : Stmt) (ps : List Str) : Prop := ∃ f fd, Fun K x x st f fd ∧ mg x = some (.ref f) ∧ Binds K fd ps []
def Cl (P : Program) (w : World) (K : PySem.W.Frag) (mg : Str → Option Value) (base : Heap) (k : Nat) (x : Str) (ps : List Str) (sp : Sp) : Prop :=
  ∃ f fd, FnOk P w K mg base CX0 k f fd ps sp ∧ mg x = some (.ref f) ∧ PySem.W.keepIn K (.ref f) = true ∧ Binds K fd ps []
theorem Df.cl {P : Program} {w : World} {K : PySem.W.Frag} {mg : Str → Option Value} {base : Heap} {k : Nat} {x : Str} {st : Stmt} {ps : List Str} {sp : Sp} (D : Df K mg x st ps) (h : ∀ f fd, Fun K x x st f fd → FnOk P w K mg base CX0 k f fd ps sp) : Cl P w K mg base k x ps sp := by
  obtain ⟨f, fd, F, g, b⟩ := D
  exact ⟨f, fd, h f fd F, g, F.kp, b⟩
/-- a property of the class -/
def DfP (K : PySem.W.Frag) (C : Addr) (x qual : Str) (st : Stmt) : Prop := ∃ p g fd, PropOf K C x p g ∧ Fun K x qual st g fd ∧ Binds K fd ["self"] []
def ClP (P : Program) (w : World) (K : PySem.W.Frag) (mg : Str → Option Value) (base : Heap) (k : Nat) (C : Addr) (x : Str) (sp : Sp) : Prop := ∃ p g fd, PropOf K C x p g ∧ FnOk P w K mg base CX0 k g fd ["self"] sp ∧ Binds K fd ["self"] []
theorem DfP.cl {P : Program} {w : World} {K : PySem.W.Frag} {mg : Str → Option Value} {base : Heap} {k : Nat} {C : Addr} {x qual : Str} {st : Stmt} {sp : Sp} (D : DfP K C x qual st) (h : ∀ f fd, Fun K x qual st f fd → FnOk P w K mg base CX0 k f fd ["self"] sp) : ClP P w K mg base k C x sp := by
  obtain ⟨p, g, fd, a, F, b⟩ := D
  exact ⟨p, g, fd, a, h g fd F, b⟩
/-! ### a column -/
theorem nWS : ¬ (("word" : Str) = "size") := by decide +kernel
def flds (w : Wd) : List (Str × V) := putF "size" (.int ((w.length / 2 : Nat) : Int)) (putF "word" (.str (S w)) [])
theorem flds_word (w : Wd) : (flds w).lookup ("word" : Str) = some (.str (S w)) := by
  unfold flds
  rw [lookup_putF, if_neg nWS, lookup_putF, if_pos rfl]
theorem flds_no (w : Wd) {m : Str} (h1 : ¬ m = "size") (h2 : ¬ m = "word") : (flds w).lookup m = none := by
  unfold flds
  rw [lookup_putF, if_neg h1, lookup_putF, if_neg h2]
  all_goals rfl
def ColAt (C : Addr) (H : Hp) (p : Addr) (w : Wd) : Prop := ∃ dx, H p = some (.ins C dx (flds w))
theorem ColAt.same {C : Addr} {H H' : Hp} {p : Addr} {w : Wd} (h : ColAt C H p w) (e : Same H H') : ColAt C H' p w := let ⟨dx, h⟩ := h; ⟨dx, e _ _ h⟩
/-- a getter's promise: data, all of it new -/
def spGet (K : PySem.W.Frag) (C : Addr) (d : Wd → PyData) : Sp := fun vs H Q _ => ∃ (p : Addr) (w : Wd), vs = [.ref p] ∧ ColAt C H p w ∧ w.length ≤ 12 ∧ ∀ H' v, Same H H' → Dp K (nw H H') v (d w) → Q v H'
end K12
set_option Elab.async false
set_option linter.all false
set_option maxRecDepth 100000
set_option maxHeartbeats 4000000
/-! readings opened by simp; loops and blocks as rules -/
namespace K12
open PySem PySem.Spec PyProof.Rows L2 K12M
section
variable {P : Program} {w : World} {K : PySem.W.Frag} {mg : Str → Option Value} {base : Heap} {C : Addr}
@[simp] theorem cxK {CX : CXT} {N : List Str} {q : Str} {sc : Scope} {f : Addr} {cd : Value} {A : Around} {outer : List Env} {s : Shared} {H : Hp} {E : XK} : (cxOf CX P w K mg base N q sc f cd A outer s H E).K = K := rfl
@[simp] theorem cxN {X : Cx} : X.nox.K = X.K := rfl
@[simp] theorem S_eq (u v : Wd) : S u = S v ↔ u = v := ⟨S_inj, fun h => by rw [h]⟩
@[simp] theorem cmul2 (j : Int) : CMul 2 j := .inl ⟨by decide, by decide⟩
def bt (u : Wd) (i : Nat) : Bool := u.getD i false
theorem bt_at (u : Wd) {i : Nat} (h : i < u.length) : atI (S u).cps.toList (i : Int) = some (sg (bt u i)) := S_at u i h
theorem same_bt (u : Wd) (i j : Nat) : same u i j = (bt u i == bt u j) := rfl
/-! ### isinstance -/
theorem isi_s {H : Hp} {z : Str} {Q : VK} (q : Q (.bl true) H) : rIsi K [.str z, .ty "str"] H Q := ⟨_, _, .type "str", .type "str", true, rfl, .ty _, .base (.str _), kit_ty (by decide +kernel), q⟩
theorem rIxL_i {H : Hp} {p : Addr} {xs : List V} {i : Int} {v : V} {Q : VK} (hq : SqL K H p xs) (hv : atI xs i = some v) (q : Q v H) : rIxL K (.ref p) (.int i) H Q := ⟨_, _, _, _, rfl, rfl, hq, hv, q⟩
theorem rIxT_i {H : Hp} {p : Addr} {xs : List V} {i : Int} {v : V} {Q : VK} (hq : SqT K H p xs) (hv : atI xs i = some v) (q : Q v H) : rIxT K (.ref p) (.int i) H Q := ⟨_, _, _, _, rfl, rfl, hq, hv, q⟩
theorem kTup_l {H : Hp} {p : Addr} {xs : List V} {Q : VK} (hq : SqL K H p xs) (q : ∀ t, H t = none → Q (.ref t) (upd H t (.tup xs))) : kTup K (.ref p) H Q := .inl ⟨_, _, rfl, hq, q⟩
theorem at_last {xs : List V} {x : V} : atI (xs ++ [x]) (-1) = some x := by
  unfold atI ixN
  simp
  rw [if_pos (by omega)]
  have e : (-1 + ((xs.length : Int) + 1)).toNat = xs.length := by omega
  simp [e]
theorem at_lt {xs : List V} {i : Nat} {v : V} (h : xs[i]? = some v) : atI xs (i : Int) = some v := atI_nat h
/-! ### loops -/
theorem forJ {wi : TI} {g : TG} {tb : TS} {D : Ends} {σ : L2.St} {H : Hp} (J : It) (H1 : Hp) (key : ∀ R : It → Hp → Prop, R J H1 → wi σ H R)
    (h : ∃ W : Nat → Nat → L2.St → Hp → Prop, (∃ m, W 0 m σ H1) ∧ ∀ i m σ H, W i m σ H → (J.stop i H ∧ D.nx σ H) ∨ (J.go i H ∧ ∃ N : L2.St → Hp → Prop, (∀ σ' H', N σ' H' → ∃ m', m' < m ∧ W (i + 1) m' σ' H') ∧ ∀ x H', J.yld i H x H' → g x σ H' fun σ2 H2 => tb { D with nx := N, ct := N, bk := D.nx } σ2 H2)) : tFor wi g tb D σ H := key _ h
theorem lcJ {wi : TI} {g : TG} {tt : TT} {te : TE} {vs : List Nat} {σ : L2.St} {H : Hp} {Q : VK} (J : It) (H1 : Hp) (key : ∀ R : It → Hp → Prop, R J H1 → wi σ H R)
    (h : ∀ D, H1 D = none → ∃ W : Nat → Nat → Hp → Prop, (∃ m, W 0 m (upd H1 D (.lst []))) ∧ ∀ i m H, W i m H → (J.stop i H ∧ Q (.ref D) H) ∨ (J.go i H ∧ ∃ Nx : Hp → Prop, (∀ H', Nx H' → ∃ m', m' < m ∧ W (i + 1) m' H') ∧ ∀ x H', J.yld i H x H' → g x (wipe σ vs) H' fun σ2 H2 => wipe σ2 vs = wipe σ vs ∧ tt σ2 H2 fun b H3 =>
    if b = true then te σ2 H3 fun y H4 => ∃ acc, H4 D = some (.lst acc) ∧ acc.length < sizeLine ∧ Nx (upd H4 D (.lst (acc ++ [y]))) else Nx H3)) : tLc wi g tt te vs σ H Q := key _ h
/-! ### heaps with objects that change -/
def SX (X : List Addr) (H H' : Hp) : Prop := ∀ b o, H b = some o → ¬ b ∈ X → H' b = some o
def nwx (X : List Addr) (H H' : Hp) : Hp := fun b => if b ∈ X then none else nw H H' b
theorem SX.rfl' {X : List Addr} {H : Hp} : SX X H H := fun _ _ h _ => h
theorem SX.trans {X : List Addr} {H1 H2 H3 : Hp} (a : SX X H1 H2) (b : SX X H2 H3) : SX X H1 H3 := fun p o h n => b p o (a p o h n) n
theorem SX.of {X : List Addr} {H H' : Hp} (e : Same H H') : SX X H H' := fun p o h _ => e p o h
theorem SX.put {X : List Addr} {H H' : Hp} {p : Addr} {o : HO} (e : SX X H H') (h : p ∈ X) : SX X H (upd H' p o) := fun b x hb n => by
  have q : b ≠ p := fun q => n (by rw [q]; exact h)
  rw [upd_ne q]
  exact e b x hb n
theorem SX.mono {X Y : List Addr} {H H' : Hp} (e : SX X H H') (h : ∀ x ∈ X, x ∈ Y) : SX Y H H' := fun b x hb n => e b x hb fun m => n (h b m)
theorem SX.same {X : List Addr} {H H' : Hp} (e : SX X H H') (h : ∀ x ∈ X, H x = none) : Same H H' := fun b o hb => e b o hb fun m => by rw [h b m] at hb; cases hb
theorem nwx_none {X : List Addr} {H H' : Hp} {b : Addr} (h : b ∈ X) : nwx X H H' b = none := by unfold nwx; rw [if_pos h]
theorem nwx_at {X : List Addr} {H H' : Hp} {b : Addr} {o : HO} (h : ¬ b ∈ X) (h0 : H b = none) (h1 : H' b = some o) : nwx X H H' b = some o := by
  unfold nwx
  rw [if_neg h, nw_at h0]
  exact h1
theorem nwx_nw {X : List Addr} {H H' : Hp} : Same (nwx X H H') (nw H H') := fun b o h => by
  unfold nwx at h
  by_cases m : b ∈ X
  · rw [if_pos m] at h
    cases h
  · rw [if_neg m] at h
    exact h
theorem nwx_mono {X : List Addr} {H H1 H2 : Hp} (e : SX X H1 H2) : Same (nwx X H H1) (nwx X H H2) := fun b o h => by
  unfold nwx at h ⊢
  by_cases m : b ∈ X
  · rw [if_pos m] at h
    cases h
  · rw [if_neg m] at h ⊢
    obtain ⟨h0, h1⟩ := nw_of h
    rw [nw_at h0]
    exact e b o h1 m
/-- what a call adds -/
theorem nw_nwx {X : List Addr} {H H1 H2 : Hp} (e : SX X H H1) (hX : ∀ x ∈ X, ∃ o, H1 x = some o) : Same (nw H1 H2) (nwx X H H2) := fun b o h => by
  obtain ⟨h0, h1⟩ := nw_of h
  have m : ¬ b ∈ X := fun m => by
    obtain ⟨o, ho⟩ := hX b m
    rw [h0] at ho
    cases ho
  refine nwx_at m ?_ h1
  cases q : H b with
  | none => rfl
  | some u =>
    have := e b u q m
    rw [h0] at this
    cases this
theorem new_not {X : List Addr} {H1 : Hp} {p : Addr} (hX : ∀ x ∈ X, ∃ o, H1 x = some o) (h : H1 p = none) : ¬ p ∈ X := fun m => by
  obtain ⟨o, ho⟩ := hX p m
  rw [h] at ho
  cases ho
theorem new_old {X : List Addr} {H H1 : Hp} {p : Addr} (e : SX X H H1) (hX : ∀ x ∈ X, ∃ o, H1 x = some o) (h : H1 p = none) : H p = none := by
  cases q : H p with
  | none => rfl
  | some u =>
    have := e p u q (new_not hX h)
    rw [h] at this
    cases this
theorem some_new {H : Hp} {p q : Addr} {o x : HO} (h : H p = some o) (hq : H q = none) : upd H q x p = some o := by
  rw [upd_ne (ne_of_none h hq)]
  exact h
/-- a new tuple put behind a list that is being made -/
theorem app_tup {X : List Addr} {H H2 : Hp} {q t : Addr} {xs acc : List V} {ds dt : List PyData} (e : SX X H H2) (hX : ∀ x ∈ X, ∃ o, H2 x = some o) (hq : q ∈ X) (ht : H2 t = none) (hd : DpAll K (nwx X H H2) acc ds) (hx : DpAll K (nwx X H H2) xs dt) :
    SX X H2 (upd (upd H2 t (.tup xs)) q (.lst (acc ++ [.ref t]))) ∧ DpAll K (nwx X H (upd (upd H2 t (.tup xs)) q (.lst (acc ++ [.ref t])))) (acc ++ [.ref t]) (ds ++ [.tuple dt]) := by
  have e4 : SX X H2 (upd (upd H2 t (.tup xs)) q (.lst (acc ++ [.ref t]))) := (SX.of (same_new ht)).put hq
  have m := new_not hX ht
  refine ⟨e4, dpA_app (DpAll.same hd (nwx_mono e4)) (.cons (dp_tup (nwx_at m (new_old e hX ht) ?_) (DpAll.same hx (nwx_mono e4))) .nil)⟩
  have n : t ≠ q := fun c => m (by rw [c]; exact hq)
  rw [upd_ne n, upd_same]
/-- a value put behind a list that is being made -/
theorem app_val {X : List Addr} {H H2 : Hp} {q : Addr} {acc : List V} {v : V} {d : PyData} {ds : List PyData} (hq : q ∈ X) (hd : DpAll K (nwx X H H2) acc ds) (hx : Dp K (nwx X H H2) v d) :
    SX X H2 (upd H2 q (.lst (acc ++ [v]))) ∧ DpAll K (nwx X H (upd H2 q (.lst (acc ++ [v])))) (acc ++ [v]) (ds ++ [d]) := by
  have e4 : SX X H2 (upd H2 q (.lst (acc ++ [v]))) := SX.rfl'.put hq
  exact ⟨e4, dpA_app (DpAll.same hd (nwx_mono e4)) (.cons (Dp.same hx (nwx_mono e4)) .nil)⟩
theorem nw_new {H H2 : Hp} {t : Addr} {o : HO} (ht : H2 t = none) : Same (nw H H2) (nw H (upd H2 t o)) := fun b x h => by
  obtain ⟨h3, h4⟩ := nw_of h
  rw [nw_at h3]
  exact same_new ht b x h4
@[simp] theorem S_one (b : Bool) : (⟨#[sg b]⟩ : Str) = S [b] := rfl
@[simp] theorem S_sgl (b : Bool) (c : Nat) : (S [b] = (⟨#[c]⟩ : Str)) ↔ sg b = c := ⟨fun h => by
  have h2 : (⟨#[sg b]⟩ : Str) = ⟨#[c]⟩ := h
  injection h2 with h3
  simpa using h3, fun h => by rw [← h]; rfl⟩
@[simp] theorem line3 : 3 ≤ sizeLine := small (by decide)
@[simp] theorem line2 : 2 ≤ sizeLine := small (by decide)
@[simp] theorem line1 : 1 ≤ sizeLine := small (by decide)
@[simp] theorem sg_eq (a b : Bool) : sg a = sg b ↔ a = b := ⟨sg_inj, fun h => by rw [h]⟩
end
end K12
set_option Elab.async false
set_option linter.all false
set_option maxRecDepth 100000
set_option maxHeartbeats 4000000
namespace K12
open PySem PySem.Spec PyProof.Rows L2 K12M
abbrev s_word_fault : Stmt := top 9
theorem sc_word_fault : FnScope ["thing", "letter", "above"] ["thing"] (defScope s_word_fault) := ⟨rfl, rfl, rfl, by decide +kernel, rfl, by decide +kernel, by decide +kernel⟩
abbrev s_init : Stmt := inClass (top 10) 0
theorem sc_init : FnScope ["self", "word", "what"] ["self", "word"] (defScope s_init) := ⟨rfl, rfl, rfl, by decide +kernel, rfl, by decide +kernel, by decide +kernel⟩
theorem okGo_cnt : ∀ (w : Wd) (h : Nat), okGo w h = true → w.count true + h = w.count false
  | [], h, e => by
    have e : h = 0 := by simpa [okGo] using e
    simp [e]
  | true :: w, h, e => by
    have := okGo_cnt w (h + 1) e
    simp
    omega
  | false :: w, h, e => by
    have e : h ≠ 0 ∧ okGo w (h - 1) = true := by simpa [okGo] using e
    have := okGo_cnt w (h - 1) e.2
    have := e.1
    simp
    omega
theorem okW_go {u : Wd} (h : okW u = true) : okGo u 0 = true := by
  unfold okW at h
  simp at h
  exact h.1
theorem okW_len {u : Wd} (h : okW u = true) : 2 ≤ u.length ∧ u.length ≤ 12 := by
  unfold okW at h
  simp [Nat.ble_eq] at h
  exact h.2
section
variable {P : Program} {w : World} {K : PySem.W.Frag} {mg : Str → Option Value} {base : Heap} {C : Addr}
/-! ### word_fault -/
def spFault : Sp := fun vs H Q _ => ∃ u : Wd, vs = [.str (S u)] ∧ okW u = true ∧ ∀ H', Same H H' → Q .non H'
theorem cl_word_fault (T : Txt K mg C) (D : Df K mg "word_fault" s_word_fault ["thing"]) : Cl P w K mg base 1 "word_fault" ["thing"] spFault := by
  obtain ⟨tS, mMS⟩ := T.mS
  refine D.cl fun f fd F => F.ok sc_word_fault (fun vs H Q E h => ?_) (fun cdv A outer s H vs Q E hr h => ?_)
  · obtain ⟨u, rfl, _⟩ := h
    rfl
  · obtain ⟨u, rfl, hok, k⟩ := h
    have hg := okW_go hok
    obtain ⟨h2, h12⟩ := okW_len hok
    have hc := okGo_cnt u 0 hg
    refine ⟨_, (pss_cons (ps_if (PW.pt (pw_or (pt_not (pt_val (pe_callB call_isi (by rfl) T.isinstance_ (by decide +kernel) (pa_cons (pv 0) (pa_cons (pe_bltn (v := .ty "str") (u := .type "str") (by rfl) T.str_ (by decide +kernel) rfl) pa_nil))))) (pw_or1 (pt_not (pt_chain op_le op_le pe_int (pe_callB call_len_str (by rfl) T.len_ PySem.boot_len (pa_cons (pv 0) pa_nil)) (pe_op op_mul pe_int (pe_glob (v := .int 6) (by rfl) mMS ⟨_, rfl⟩))))))) (pss_one (ps_ret pe_str)) pss_nil)
      (pss_cons (ps_if (pt_truth (pe_lc (own := [("letter", 1)]) (by rfl) sc_word_fault.nd (pi_str (pv 0)) (blkOk_by (N := ["thing", "letter", "above"]) (sc := defScope s_word_fault) (own := [("letter", 1)]) (by decide +kernel)) (fun _ _ _ _ _ => pg_name (i := 1) sc_word_fault.nd rfl (.inl rfl)) (fun _ _ _ _ _ => pts_one (PW.pt (pw_and (pt_cmpR op_ne (pv 1) pe_str (nomark _)) (pw_and1 (pt_cmpR op_ne (pv 1) pe_str (nomark _)))))) (fun _ _ _ _ _ => (pv 1))) (by intro _; rfl)) (pss_one (ps_ret pe_str)) pss_nil)
      (pss_cons (ps_if (pt_cmpR op_ne (pe_m1 PySem.F.slot_str_count PySem.F.type_str_count mt_count (pv 0) pe_str) (pe_m1 PySem.F.slot_str_count PySem.F.type_str_count mt_count (pv 0) pe_str) (nomark _)) (pss_one (ps_ret pe_str)) pss_nil)
      (pss_cons (ps_set (i := 2) sc_word_fault.nd rfl (.inl rfl) pe_int)
      (pss_cons (ps_for PassesOwn.never rfl (pi_str (pv 0)) (pg_name (i := 1) sc_word_fault.nd rfl (.inl rfl)) (pss_cons (ps_aug (i := 2) sc_word_fault.nd rfl (.inl rfl) (pe_ifExp (pt_cmpR op_eq (pv 1) pe_str (nomark _)) pe_int (pe_un un_neg pe_int)) ip_add)
      (pss_one (ps_if (pt_cmpR op_lt (pv 2) pe_int (nomark _)) (pss_one (ps_ret pe_str)) pss_nil))))
      (pss_one (ps_ret pe_non))))))), ?_⟩
    simp [tSeq, tIfS, tOr, tAnd, tNot, tB, tCB, tCons, tNil, tVar, tC, tTest, tChain, rI0, rI, tOp, tUn, rU, tRet, tRetN, tNext, rNe, rEq, tAug, tAsg, gName, ipI, tDrop, tIf, tFld, tM1, tTup, tLst, tSl, tPart, rSlS, rIxS, tCall, tMeth, tProp, tMake, gTup, gCons, gNil, tPar, rAppend, tyV, tThen, tNotN, tIsN, tNotV, tRg1, tLstRg, scal, flds_word, gSub, tBM, S_len, S_app, S_count, S_take, S_drop, S_cut, S_rep, lit_d, lit_o, lit_do, lit_od, lit_e, L2.start, wipe, and_assoc, tAndV, tOrV, tNoPart, Int.ofNat_inj]
    refine isi_s ?_
    simp [tSeq, tIfS, tOr, tAnd, tNot, tB, tCB, tCons, tNil, tVar, tC, tTest, tChain, rI0, rI, tOp, tUn, rU, tRet, tRetN, tNext, rNe, rEq, tAug, tAsg, gName, ipI, tDrop, tIf, tFld, tM1, tTup, tLst, tSl, tPart, rSlS, rIxS, tCall, tMeth, tProp, tMake, gTup, gCons, gNil, tPar, rAppend, tyV, tThen, tNotN, tIsN, tNotV, tRg1, tLstRg, scal, flds_word, gSub, tBM, S_len, S_app, S_count, S_take, S_drop, S_cut, S_rep, lit_d, lit_o, lit_do, lit_od, lit_e, L2.start, wipe, and_assoc, tAndV, tOrV, tNoPart, Int.ofNat_inj]
    rw [if_pos (by omega), if_pos (by omega)]
    refine ⟨small (by omega), _, rfl, _, rfl, fun D hD => lc_wordR (w := u) (fun r acc H1 => acc = [] ∧ Same H H1) ⟨rfl, same_new hD⟩ ?_ ?_⟩
    · rintro b r acc H1 hD1 ⟨rfl, e1⟩
      cases b <;> simp [LcTurn, LcN, tSeq, tIfS, tOr, tAnd, tNot, tB, tCB, tCons, tNil, tVar, tC, tTest, tChain, rI0, rI, tOp, tUn, rU, tRet, tRetN, tNext, rNe, rEq, tAug, tAsg, gName, ipI, tDrop, tIf, tFld, tM1, tTup, tLst, tSl, tPart, rSlS, rIxS, tCall, tMeth, tProp, tMake, gTup, gCons, gNil, tPar, rAppend, tyV, tThen, tNotN, tIsN, tNotV, tRg1, tLstRg, scal, flds_word, gSub, tBM, S_len, S_app, S_count, S_take, S_drop, S_cut, S_rep, lit_d, lit_o, lit_do, lit_od, lit_e, L2.start, wipe, and_assoc, tAndV, tOrV, tNoPart, Int.ofNat_inj, hD1, e1]
    · rintro acc H1 hD1 ⟨rfl, e1⟩
      refine .inl ⟨?_, .inl ⟨by omega, ?_⟩⟩
      · simp [TruV]
        exact .inl (sqL_of hD1)
      · refine ⟨_, rfl, _, rfl, for_word (w := u) (fun r σ H2 => ∃ (h : Nat) (b : Option V), σ = [some (.str (S u)), b, some (.int h)] ∧ okGo r h = true ∧ Same H H2) ⟨0, none, rfl, hg, e1⟩ ?_ ?_⟩
        · rintro b r σ H2 ⟨h, _, rfl, hk, e2⟩
          simp [tSeq, tIfS, tOr, tAnd, tNot, tB, tCB, tCons, tNil, tVar, tC, tTest, tChain, rI0, rI, tOp, tUn, rU, tRet, tRetN, tNext, rNe, rEq, tAug, tAsg, gName, ipI, tDrop, tIf, tFld, tM1, tTup, tLst, tSl, tPart, rSlS, rIxS, tCall, tMeth, tProp, tMake, gTup, gCons, gNil, tPar, rAppend, tyV, tThen, tNotN, tIsN, tNotV, tRg1, tLstRg, scal, flds_word, gSub, tBM, S_len, S_app, S_count, S_take, S_drop, S_cut, S_rep, lit_d, lit_o, lit_do, lit_od, lit_e, L2.start, wipe, and_assoc, tAndV, tOrV, tNoPart, Int.ofNat_inj]
          cases b <;> simp [tSeq, tIfS, tOr, tAnd, tNot, tB, tCB, tCons, tNil, tVar, tC, tTest, tChain, rI0, rI, tOp, tUn, rU, tRet, tRetN, tNext, rNe, rEq, tAug, tAsg, gName, ipI, tDrop, tIf, tFld, tM1, tTup, tLst, tSl, tPart, rSlS, rIxS, tCall, tMeth, tProp, tMake, gTup, gCons, gNil, tPar, rAppend, tyV, tThen, tNotN, tIsN, tNotV, tRg1, tLstRg, scal, flds_word, gSub, tBM, S_len, S_app, S_count, S_take, S_drop, S_cut, S_rep, lit_d, lit_o, lit_do, lit_od, lit_e, L2.start, wipe, and_assoc, tAndV, tOrV, tNoPart, Int.ofNat_inj]
          · have hk : h ≠ 0 ∧ okGo r (h - 1) = true := by simpa [okGo] using hk
            have := hk.1
            rw [if_neg (by omega)]
            exact ⟨h - 1, by omega, hk.2, e2⟩
          · rw [if_neg (by omega)]
            exact ⟨h + 1, by omega, hk, e2⟩
        · rintro σ H2 ⟨h, _, rfl, hk, e2⟩
          exact k _ e2
/-! ### Column.__init__ -/
def spInit (C : Addr) : Sp := fun vs H Q _ => ∃ (p dx : Addr) (u : Wd), vs = [.ref p, .str (S u)] ∧ H p = some (.ins C dx []) ∧ okW u = true ∧ ∀ H', ColAt C H' p u → (∀ b o, H b = some o → b ≠ p → H' b = some o) → Q .non H'
theorem ok_init (T : Txt K mg C) (c1 : Cl P w K mg base 1 "word_fault" ["thing"] spFault) {f : Addr} {fd : FuncData} (F : Fun K "__init__" "Column.__init__" s_init f fd) : FnOk P w K mg base CX0 2 f fd ["self", "word"] (spInit C) := by
  obtain ⟨f_word_fault, fd_word_fault, F_word_fault, g_word_fault, k_word_fault, b_word_fault⟩ := c1
  refine F.ok sc_init (fun vs H Q E h => ?_) (fun cdv A outer s H vs Q E hr h => ?_)
  · obtain ⟨p, dx, u, rfl, _⟩ := h
    rfl
  · obtain ⟨p, dx, u, rfl, hp, hok, k⟩ := h
    obtain ⟨h2, h12⟩ := okW_len hok
    refine ⟨_, (pss_cons (ps_set (i := 2) sc_init.nd rfl (.inl rfl) (pe_call F_word_fault (hr.mono (by decide)) (by rfl) g_word_fault k_word_fault b_word_fault .nil pass0 (pa_cons (pv 1) pa_nil)))
      (pss_cons (ps_if (pt_cmpR op_notN (pv 2) pe_non (nomark _)) (pss_one ps_never) pss_nil)
      (pss_cons (ps_fld (pv 0) (pv 1) rfl)
      (pss_one (ps_fld (pv 0) (pe_op op_fdiv (pe_callB call_len_str (by rfl) T.len_ PySem.boot_len (pa_cons (pv 1) pa_nil)) pe_int) rfl))))), ?_⟩
    simp [tSeq, tIfS, tOr, tAnd, tNot, tB, tCB, tCons, tNil, tVar, tC, tTest, tChain, rI0, rI, tOp, tUn, rU, tRet, tRetN, tNext, rNe, rEq, tAug, tAsg, gName, ipI, tDrop, tIf, tFld, tM1, tTup, tLst, tSl, tPart, rSlS, rIxS, tCall, tMeth, tProp, tMake, gTup, gCons, gNil, tPar, rAppend, tyV, tThen, tNotN, tIsN, tNotV, tRg1, tLstRg, scal, flds_word, gSub, tBM, S_len, S_app, S_count, S_take, S_drop, S_cut, S_rep, lit_d, lit_o, lit_do, lit_od, lit_e, L2.start, wipe, and_assoc, tAndV, tOrV, tNoPart, Int.ofNat_inj]
    refine ⟨u, rfl, hok, fun H1 e1 => ?_⟩
    have hp1 := e1 _ _ hp
    simp [tSeq, tIfS, tOr, tAnd, tNot, tB, tCB, tCons, tNil, tVar, tC, tTest, tChain, rI0, rI, tOp, tUn, rU, tRet, tRetN, tNext, rNe, rEq, tAug, tAsg, gName, ipI, tDrop, tIf, tFld, tM1, tTup, tLst, tSl, tPart, rSlS, rIxS, tCall, tMeth, tProp, tMake, gTup, gCons, gNil, tPar, rAppend, tyV, tThen, tNotN, tIsN, tNotV, tRg1, tLstRg, scal, flds_word, gSub, tBM, S_len, S_app, S_count, S_take, S_drop, S_cut, S_rep, lit_d, lit_o, lit_do, lit_od, lit_e, L2.start, wipe, and_assoc, tAndV, tOrV, tNoPart, Int.ofNat_inj, sFld, hp1, T.cl, T.nW, T.nS, upd_same, CDiv, putF, upd_upd]
    refine ⟨small (by omega), ?_⟩
    have hne : ¬ (Str.ofString "word" = Str.ofString "size") := nWS
    have e : (u.length : Int) / 2 = ((u.length / 2 : Nat) : Int) := by omega
    refine k _ ⟨dx, ?_⟩ fun b o hb n => ?_
    · rw [upd_same, e]
      rfl
    · rw [upd_ne n]
      exact e1 _ _ hb
theorem mk_col {H1 : Hp} {R : Addr → Hp → Prop} {E : XK} {u : Wd} (hok : okW u = true) (k : ∀ H' x, Same H1 H' → ColAt C H' x u → H1 x = none → R x H') :
    ∀ x dx, H1 x = none → H1 dx = none → dx ≠ x → spInit C [.ref x, .str (S u)] (upd (upd H1 dx (.own x)) x (.ins C dx [])) (fun v H2 => v = .non ∧ R x H2) E := fun x dx hx hd n =>
  ⟨x, dx, u, rfl, upd_same, hok, fun H' hc e => ⟨rfl, k H' x (fun b o hb => e b o (by rw [upd_ne (ne_of_none hb hx), upd_ne (ne_of_none hb hd)]; exact hb) (ne_of_none hb hx)) hc hx⟩⟩
end
end K12
set_option Elab.async false
set_option linter.all false
set_option maxRecDepth 100000
set_option maxHeartbeats 4000000
namespace K12
open PySem PySem.Spec PyProof.Rows L2 K12M
abbrev s_heights : Stmt := inClass (top 10) 1
theorem sc_heights : FnScope ["self", "above", "letter"] ["self"] (defScope s_heights) := ⟨rfl, rfl, rfl, by decide +kernel, rfl, by decide +kernel, by decide +kernel⟩
abbrev s_runs : Stmt := inClass (top 10) 3
theorem sc_runs : FnScope ["self", "found", "first", "t"] ["self"] (defScope s_runs) := ⟨rfl, rfl, rfl, by decide +kernel, rfl, by decide +kernel, by decide +kernel⟩
abbrev s_creases : Stmt := inClass (top 10) 4
theorem sc_creases : FnScope ["self", "found", "t"] ["self"] (defScope s_creases) := ⟨rfl, rfl, rfl, by decide +kernel, rfl, by decide +kernel, by decide +kernel⟩
abbrev s_ridges : Stmt := inClass (top 10) 6
theorem sc_ridges : FnScope ["self", "bend"] ["self"] (defScope s_ridges) := ⟨rfl, rfl, rfl, by decide +kernel, rfl, by decide +kernel, by decide +kernel⟩
abbrev s_height : Stmt := inClass (top 10) 9
theorem sc_height : FnScope ["self", "boundary"] ["self", "boundary"] (defScope s_height) := ⟨rfl, rfl, rfl, by decide +kernel, rfl, by decide +kernel, by decide +kernel⟩
section
variable {P : Program} {w : World} {K : PySem.W.Frag} {mg : Str → Option Value} {base : Heap} {C : Addr}
/-! ### heights -/
def dHs (u : Wd) : PyData := .tuple ((heightsM u).map PyData.int)
theorem heightsGo_len : ∀ (u : Wd) (h : Int), (heightsGo h u).length = u.length
  | [], _ => rfl
  | b :: u, h => by simp [heightsGo, heightsGo_len u]
theorem cl_heights (T : Txt K mg C) (D : DfP K C "heights" "Column.heights" s_heights) : ClP P w K mg base 1 C "heights" (spGet K C dHs) := by
  refine D.cl fun f fd F => F.ok sc_heights (fun vs H Q E h => ?_) (fun cdv A outer s H vs Q E hr h => ?_)
  · obtain ⟨p, u, rfl, _⟩ := h
    rfl
  · obtain ⟨p, u, rfl, ⟨dx, hp⟩, hl, k⟩ := h
    refine ⟨_, (pss_cons (ps_set (i := 1) sc_heights.nd rfl (.inl rfl) (pe_lst (pa_cons pe_int pa_nil)))
      (pss_cons (ps_for PassesOwn.never rfl (pi_str (pe_fld (pv 0) rfl)) (pg_name (i := 2) sc_heights.nd rfl (.inl rfl)) (pss_one (ps_expr (pe_bm PySem.F.plainAttrs_list PySem.F.slot_list_append PySem.F.type_list_append mt_append (pv 1) (pa_cons (pe_ifExp (pt_cmpR op_eq (pv 2) pe_str (nomark _)) (pe_op op_add (pe_ix ix_list (pv 1) (pe_un un_neg pe_int) (fun _ _ => rfl)) pe_int) (pe_op op_sub (pe_ix ix_list (pv 1) (pe_un un_neg pe_int) (fun _ _ => rfl)) pe_int)) pa_nil)))))
      (pss_one (ps_ret (pe_tupleOf (by rfl) T.tuple_ (pv 1)))))), ?_⟩
    simp [tSeq, tIfS, tOr, tAnd, tNot, tB, tCB, tCons, tNil, tVar, tC, tTest, tChain, rI0, rI, tOp, tUn, rU, tRet, tRetN, tNext, rNe, rEq, tAug, tAsg, gName, ipI, tDrop, tIf, tFld, tM1, tTup, tLst, tSl, tPart, rSlS, rIxS, tCall, tMeth, tProp, tMake, gTup, gCons, gNil, tPar, rAppend, tyV, tThen, tNotN, tIsN, tNotV, tRg1, tLstRg, scal, flds_word, gSub, tBM, S_len, S_app, S_count, S_take, S_drop, S_cut, S_rep, lit_d, lit_o, lit_do, lit_od, lit_e, L2.start, wipe, and_assoc, tAndV, tOrV, tNoPart, Int.ofNat_inj]
    intro q hq
    have hp0 := some_new (x := HO.lst [V.int 0]) hp hq
    refine forJ (Its (S u)) _ (fun R r => by simp [tSeq, tIfS, tOr, tAnd, tNot, tB, tCB, tCons, tNil, tVar, tC, tTest, tChain, rI0, rI, tOp, tUn, rU, tRet, tRetN, tNext, rNe, rEq, tAug, tAsg, gName, ipI, tDrop, tIf, tFld, tM1, tTup, tLst, tSl, tPart, rSlS, rIxS, tCall, tMeth, tProp, tMake, gTup, gCons, gNil, tPar, rAppend, tyV, tThen, tNotN, tIsN, tNotV, tRg1, tLstRg, scal, flds_word, gSub, tBM, S_len, S_app, S_count, S_take, S_drop, S_cut, S_rep, lit_d, lit_o, lit_do, lit_od, lit_e, L2.start, wipe, and_assoc, tAndV, tOrV, tNoPart, Int.ofNat_inj, iStr, hp0, T.cl, T.nW]; exact r) (for_word (w := u) (fun r σ H2 => ∃ (b : Option V) (hs : List Int) (h : Int), σ = [some (.ref p), some (.ref q), b] ∧ H2 q = some (.lst (hs.map V.int ++ [V.int h])) ∧ Same H H2 ∧ hs ++ h :: heightsGo h r = heightsM u) ⟨none, [], 0, rfl, upd_same, same_new hq, rfl⟩ ?_ ?_)
    · rintro b r σ H2 ⟨_, hs, h, rfl, h2, e2, hM⟩
      have hL : ∃ xs, SqL K H2 q xs := ⟨_, sqL_of h2⟩
      have hlen : hs.length ≤ 12 := by
        have := congrArg List.length hM
        simp [heightsM, heightsGo_len] at this
        omega
      simp [tSeq, tIfS, tOr, tAnd, tNot, tB, tCB, tCons, tNil, tVar, tC, tTest, tChain, rI0, rI, tOp, tUn, rU, tRet, tRetN, tNext, rNe, rEq, tAug, tAsg, gName, ipI, tDrop, tIf, tFld, tM1, tTup, tLst, tSl, tPart, rSlS, rIxS, tCall, tMeth, tProp, tMake, gTup, gCons, gNil, tPar, rAppend, tyV, tThen, tNotN, tIsN, tNotV, tRg1, tLstRg, scal, flds_word, gSub, tBM, S_len, S_app, S_count, S_take, S_drop, S_cut, S_rep, lit_d, lit_o, lit_do, lit_od, lit_e, L2.start, wipe, and_assoc, tAndV, tOrV, tNoPart, Int.ofNat_inj, hL]
      cases b <;> simp [tSeq, tIfS, tOr, tAnd, tNot, tB, tCB, tCons, tNil, tVar, tC, tTest, tChain, rI0, rI, tOp, tUn, rU, tRet, tRetN, tNext, rNe, rEq, tAug, tAsg, gName, ipI, tDrop, tIf, tFld, tM1, tTup, tLst, tSl, tPart, rSlS, rIxS, tCall, tMeth, tProp, tMake, gTup, gCons, gNil, tPar, rAppend, tyV, tThen, tNotN, tIsN, tNotV, tRg1, tLstRg, scal, flds_word, gSub, tBM, S_len, S_app, S_count, S_take, S_drop, S_cut, S_rep, lit_d, lit_o, lit_do, lit_od, lit_e, L2.start, wipe, and_assoc, tAndV, tOrV, tNoPart, Int.ofNat_inj]
      all_goals refine rIxL_i (sqL_of h2) at_last ?_
      all_goals simp [tSeq, tIfS, tOr, tAnd, tNot, tB, tCB, tCons, tNil, tVar, tC, tTest, tChain, rI0, rI, tOp, tUn, rU, tRet, tRetN, tNext, rNe, rEq, tAug, tAsg, gName, ipI, tDrop, tIf, tFld, tM1, tTup, tLst, tSl, tPart, rSlS, rIxS, tCall, tMeth, tProp, tMake, gTup, gCons, gNil, tPar, rAppend, tyV, tThen, tNotN, tIsN, tNotV, tRg1, tLstRg, scal, flds_word, gSub, tBM, S_len, S_app, S_count, S_take, S_drop, S_cut, S_rep, lit_d, lit_o, lit_do, lit_od, lit_e, L2.start, wipe, and_assoc, tAndV, tOrV, tNoPart, Int.ofNat_inj, h2]
      all_goals refine ⟨small' (by omega), hs ++ [h], ?_⟩
      · refine ⟨h - 1, ?_, same_mut e2 hq, ?_⟩
        · simp [upd_same]
        · rw [← hM]
          simp [heightsGo]
      · refine ⟨h + 1, ?_, same_mut e2 hq, ?_⟩
        · simp [upd_same]
        · rw [← hM]
          simp [heightsGo]
    · rintro σ H2 ⟨_, hs, h, rfl, h2, e2, hM⟩
      simp [tSeq, tIfS, tOr, tAnd, tNot, tB, tCB, tCons, tNil, tVar, tC, tTest, tChain, rI0, rI, tOp, tUn, rU, tRet, tRetN, tNext, rNe, rEq, tAug, tAsg, gName, ipI, tDrop, tIf, tFld, tM1, tTup, tLst, tSl, tPart, rSlS, rIxS, tCall, tMeth, tProp, tMake, gTup, gCons, gNil, tPar, rAppend, tyV, tThen, tNotN, tIsN, tNotV, tRg1, tLstRg, scal, flds_word, gSub, tBM, S_len, S_app, S_count, S_take, S_drop, S_cut, S_rep, lit_d, lit_o, lit_do, lit_od, lit_e, L2.start, wipe, and_assoc, tAndV, tOrV, tNoPart, Int.ofNat_inj]
      refine kTup_l (sqL_of h2) fun t ht => k _ _ (e2.trans (same_new ht)) ?_
      have h0 : H t = none := by
        cases q : H t with
        | none => rfl
        | some x => rw [e2 _ _ q] at ht; cases ht
      unfold dHs
      rw [← hM]
      refine dp_tup (vs := (hs ++ [h]).map V.int) (by rw [nw_at h0, upd_same]; simp) ?_
      exact dpA_ints _
/-! ### runs -/
def dRun (x : Bool × Nat × Nat) : PyData := .tuple [.str (S [x.1]), .int (x.2.1 : Nat), .int (x.2.2 : Nat)]
def dRuns (u : Wd) : PyData := .tuple ((runsM u).map dRun)
theorem cl_runs (T : Txt K mg C) (D : DfP K C "runs" "Column.runs" s_runs) : ClP P w K mg base 1 C "runs" (spGet K C dRuns) := by
  refine D.cl fun f fd F => F.ok sc_runs (fun vs H Q E h => ?_) (fun cdv A outer s H vs Q E hr h => ?_)
  · obtain ⟨p, u, rfl, _⟩ := h
    rfl
  · obtain ⟨p, u, rfl, ⟨dx, hp⟩, hl, k⟩ := h
    refine ⟨_, (pss_cons (ps_set (i := 1) sc_runs.nd rfl (.inl rfl) (pe_lst pa_nil))
      (pss_cons (ps_set (i := 2) sc_runs.nd rfl (.inl rfl) pe_int)
      (pss_cons (ps_for PassesOwn.never rfl (pi_range2 (by rfl) T.range_ (pa_cons pe_int (pa_cons (pe_op op_add (pe_callB call_len_str (by rfl) T.len_ PySem.boot_len (pa_cons (pe_fld (pv 0) rfl) pa_nil)) pe_int) pa_nil))) (pg_name (i := 3) sc_runs.nd rfl (.inl rfl)) (pss_one (ps_if (PW.pt (pw_or (pt_cmpR op_eq (pv 3) (pe_callB call_len_str (by rfl) T.len_ PySem.boot_len (pa_cons (pe_fld (pv 0) rfl) pa_nil)) (nomark _)) (pw_or1 (pt_cmpR op_ne (pe_ix ix_str (pe_fld (pv 0) rfl) (pv 3) (fun _ _ => rfl)) (pe_ix ix_str (pe_fld (pv 0) rfl) (pv 2) (fun _ _ => rfl)) (nomark _))))) (pss_cons (ps_expr (pe_bm PySem.F.plainAttrs_list PySem.F.slot_list_append PySem.F.type_list_append mt_append (pv 1) (pa_cons (pe_tup (pa_cons (pe_ix ix_str (pe_fld (pv 0) rfl) (pv 2) (fun _ _ => rfl)) (pa_cons (pv 2) (pa_cons (pe_op op_sub (pv 3) (pv 2)) pa_nil)))) pa_nil)))
      (pss_one (ps_set (i := 2) sc_runs.nd rfl (.inl rfl) (pv 3)))) pss_nil)))
      (pss_one (ps_ret (pe_tupleOf (by rfl) T.tuple_ (pv 1))))))), ?_⟩
    simp [tSeq, tIfS, tOr, tAnd, tNot, tB, tCB, tCons, tNil, tVar, tC, tTest, tChain, rI0, rI, tOp, tUn, rU, tRet, tRetN, tNext, rNe, rEq, tAug, tAsg, gName, ipI, tDrop, tIf, tFld, tM1, tTup, tLst, tSl, tPart, rSlS, rIxS, tCall, tMeth, tProp, tMake, gTup, gCons, gNil, tPar, rAppend, tyV, tThen, tNotN, tIsN, tNotV, tRg1, tLstRg, scal, flds_word, gSub, tBM, S_len, S_app, S_count, S_take, S_drop, S_cut, S_rep, lit_d, lit_o, lit_do, lit_od, lit_e, L2.start, wipe, and_assoc, tAndV, tOrV, tNoPart, Int.ofNat_inj]
    intro q hq
    have hp0 := some_new (x := HO.lst []) hp hq
    obtain ⟨Pv, hPv⟩ : ∃ Pv : Nat → L2.St → Hp → Prop, ∀ i σ H2, Pv i σ H2 ↔ ∃ (b : Option V) (first : Nat) (acc : List V) (ds : List (Bool × Nat × Nat)), σ = [some (.ref p), some (.ref q), some (.int first), b] ∧ H2 q = some (.lst acc) ∧ SX [q] H H2 ∧ DpAll K (nwx [q] H H2) acc (ds.map dRun) ∧ first < i + 1 ∧ (first < u.length ∨ i = u.length) ∧ ds.length ≤ i ∧ ds ++ runsGo u (u.length - i) (i + 1) first = runsM u := ⟨_, fun _ _ _ => Iff.rfl⟩
    refine forJ (Itr 1 u.length) _ (fun R r => by simp [tSeq, tIfS, tOr, tAnd, tNot, tB, tCB, tCons, tNil, tVar, tC, tTest, tChain, rI0, rI, tOp, tUn, rU, tRet, tRetN, tNext, rNe, rEq, tAug, tAsg, gName, ipI, tDrop, tIf, tFld, tM1, tTup, tLst, tSl, tPart, rSlS, rIxS, tCall, tMeth, tProp, tMake, gTup, gCons, gNil, tPar, rAppend, tyV, tThen, tNotN, tIsN, tNotV, tRg1, tLstRg, scal, flds_word, gSub, tBM, S_len, S_app, S_count, S_take, S_drop, S_cut, S_rep, lit_d, lit_o, lit_do, lit_od, lit_e, L2.start, wipe, and_assoc, tAndV, tOrV, tNoPart, Int.ofNat_inj, iRng2, hp0, T.cl, T.nW]; exact ⟨small (by omega), by omega, by omega, r⟩) (for_range (n := u.length) Pv ((hPv _ _ _).mpr ⟨none, 0, [], [], rfl, upd_same, (SX.of (same_new hq)), .nil, by omega, by omega, by simp, rfl⟩) ?_ ?_)
    · intro i σ H2 hi hP
      obtain ⟨_, first, acc, ds, rfl, h2, e2, hd, hf, hf2, hdl, hM⟩ := (hPv _ _ _).mp hP
      have hL : ∃ xs, SqL K H2 q xs := ⟨_, sqL_of h2⟩
      have hX : ∀ x ∈ [q], ∃ o, H2 x = some o := by simp [h2]
      have hpn : ¬ p ∈ [q] := by
        simp
        exact ne_of_none hp hq
      have hp2 := e2 _ _ hp hpn
      obtain ⟨t, et⟩ : ∃ t, t = i + 1 := ⟨_, rfl⟩
      have ei : (1 : Int) + (i : Int) = (t : Int) := by omega
      have a1 := bt_at u (i := first) (by omega)
      have hsz : u.length ≤ sizeLine := small (by omega)
      rw [show u.length - i = (u.length - t) + 1 from by omega, ← et] at hM
      have es : (t : Int) - first = ((t - first : Nat) : Int) := by omega
      have hal : acc.length = ds.length := by rw [dpA_len hd, List.length_map]
      rw [ei, ← et]
      have hput : (Nat.beq t u.length || !same u t first) = true → ∀ (a : Addr), H2 a = none → Pv t [some (.ref p), some (.ref q), some (.int (t : Int)), some (.int (t : Int))] (upd (upd H2 a (.tup [.str (S [bt u first]), .int (first : Int), .int (((t - first : Nat)) : Int)])) q (.lst (acc ++ [.ref a]))) := by
        intro hc a ha
        obtain ⟨e4, d4⟩ := app_tup (q := q) (xs := [.str (S [bt u first]), .int (first : Int), .int (((t - first : Nat)) : Int)]) e2 hX (by simp) ha hd (.cons (.str _) (.cons (.int _) (.cons (.int _) .nil)))
        refine (hPv _ _ _).mpr ⟨_, t, _, ds ++ [(bt u first, first, t - first)], rfl, upd_same, e2.trans e4, ?_, by omega, by omega, by simp; omega, ?_⟩
        · rw [List.map_append]
          exact d4
        · rw [← hM]
          simp [runsGo, hc]
          rfl
      by_cases hc : t = u.length
      · have hc' : (t : Int) = (u.length : Int) := by omega
        simp [tSeq, tIfS, tOr, tAnd, tNot, tB, tCB, tCons, tNil, tVar, tC, tTest, tChain, rI0, rI, tOp, tUn, rU, tRet, tRetN, tNext, rNe, rEq, tAug, tAsg, gName, ipI, tDrop, tIf, tFld, tM1, tTup, tLst, tSl, tPart, rSlS, rIxS, tCall, tMeth, tProp, tMake, gTup, gCons, gNil, tPar, rAppend, tyV, tThen, tNotN, tIsN, tNotV, tRg1, tLstRg, scal, flds_word, gSub, tBM, S_len, S_app, S_count, S_take, S_drop, S_cut, S_rep, lit_d, lit_o, lit_do, lit_od, lit_e, L2.start, wipe, and_assoc, tAndV, tOrV, tNoPart, Int.ofNat_inj, hL, hp2, T.cl, T.nW, a1, hsz, eq_true hc', es]
        exact fun a ha => ⟨acc, some_new h2 ha, small' (by omega), hput (by simp [hc]) a ha⟩
      · have a2 := bt_at u (i := t) (by omega)
        have hc' : ¬ (t : Int) = (u.length : Int) := by omega
        by_cases hb : bt u t = bt u first
        · simp [tSeq, tIfS, tOr, tAnd, tNot, tB, tCB, tCons, tNil, tVar, tC, tTest, tChain, rI0, rI, tOp, tUn, rU, tRet, tRetN, tNext, rNe, rEq, tAug, tAsg, gName, ipI, tDrop, tIf, tFld, tM1, tTup, tLst, tSl, tPart, rSlS, rIxS, tCall, tMeth, tProp, tMake, gTup, gCons, gNil, tPar, rAppend, tyV, tThen, tNotN, tIsN, tNotV, tRg1, tLstRg, scal, flds_word, gSub, tBM, S_len, S_app, S_count, S_take, S_drop, S_cut, S_rep, lit_d, lit_o, lit_do, lit_od, lit_e, L2.start, wipe, and_assoc, tAndV, tOrV, tNoPart, Int.ofNat_inj, hL, hp2, T.cl, T.nW, a1, a2, hsz, eq_false hc', es, eq_true hb]
          refine (hPv _ _ _).mpr ⟨_, first, acc, ds, rfl, h2, e2, hd, by omega, by omega, by omega, ?_⟩
          rw [← hM]
          have : (Nat.beq t u.length || !same u t first) = false := by
            have h1 : Nat.beq t u.length = false := by
              cases q : Nat.beq t u.length with
              | false => rfl
              | true => exact absurd (Nat.eq_of_beq_eq_true q) hc
            simp [h1, same_bt, hb]
          simp [runsGo, this]
        · simp [tSeq, tIfS, tOr, tAnd, tNot, tB, tCB, tCons, tNil, tVar, tC, tTest, tChain, rI0, rI, tOp, tUn, rU, tRet, tRetN, tNext, rNe, rEq, tAug, tAsg, gName, ipI, tDrop, tIf, tFld, tM1, tTup, tLst, tSl, tPart, rSlS, rIxS, tCall, tMeth, tProp, tMake, gTup, gCons, gNil, tPar, rAppend, tyV, tThen, tNotN, tIsN, tNotV, tRg1, tLstRg, scal, flds_word, gSub, tBM, S_len, S_app, S_count, S_take, S_drop, S_cut, S_rep, lit_d, lit_o, lit_do, lit_od, lit_e, L2.start, wipe, and_assoc, tAndV, tOrV, tNoPart, Int.ofNat_inj, hL, hp2, T.cl, T.nW, a1, a2, hsz, eq_false hc', es, eq_false hb]
          exact fun a ha => ⟨acc, some_new h2 ha, small' (by omega), hput (by simp [same_bt, hb]) a ha⟩
    · intro σ H2 hP
      obtain ⟨_, first, acc, ds, rfl, h2, e2, hd, hf, hf2, hdl, hM⟩ := (hPv _ _ _).mp hP
      simp [tSeq, tIfS, tOr, tAnd, tNot, tB, tCB, tCons, tNil, tVar, tC, tTest, tChain, rI0, rI, tOp, tUn, rU, tRet, tRetN, tNext, rNe, rEq, tAug, tAsg, gName, ipI, tDrop, tIf, tFld, tM1, tTup, tLst, tSl, tPart, rSlS, rIxS, tCall, tMeth, tProp, tMake, gTup, gCons, gNil, tPar, rAppend, tyV, tThen, tNotN, tIsN, tNotV, tRg1, tLstRg, scal, flds_word, gSub, tBM, S_len, S_app, S_count, S_take, S_drop, S_cut, S_rep, lit_d, lit_o, lit_do, lit_od, lit_e, L2.start, wipe, and_assoc, tAndV, tOrV, tNoPart, Int.ofNat_inj]
      refine kTup_l (sqL_of h2) fun t ht => k _ _ ((e2.same (by simp [hq])).trans (same_new ht)) ?_
      have h0 := new_old e2 (by simp [h2]) ht
      rw [Nat.sub_self] at hM
      simp [runsGo] at hM
      unfold dRuns
      rw [← hM]
      exact dp_tup (by rw [nw_at h0, upd_same]) (DpAll.same hd (nwx_nw.trans (nw_new ht)))
/-! ### creases -/
def dCr (x : Nat × Bool) : PyData := .tuple [.int (x.1 : Nat), .str (if x.2 then "hollow" else "ridge")]
def dCrs (u : Wd) : PyData := .tuple ((creasesM u).map dCr)
theorem cl_creases (T : Txt K mg C) (D : DfP K C "creases" "Column.creases" s_creases) : ClP P w K mg base 1 C "creases" (spGet K C dCrs) := by
  refine D.cl fun f fd F => F.ok sc_creases (fun vs H Q E h => ?_) (fun cdv A outer s H vs Q E hr h => ?_)
  · obtain ⟨p, u, rfl, _⟩ := h
    rfl
  · obtain ⟨p, u, rfl, ⟨dx, hp⟩, hl, k⟩ := h
    refine ⟨_, (pss_cons (ps_set (i := 1) sc_creases.nd rfl (.inl rfl) (pe_lst pa_nil))
      (pss_cons (ps_for PassesOwn.never rfl (pi_range2 (by rfl) T.range_ (pa_cons pe_int (pa_cons (pe_callB call_len_str (by rfl) T.len_ PySem.boot_len (pa_cons (pe_fld (pv 0) rfl) pa_nil)) pa_nil))) (pg_name (i := 2) sc_creases.nd rfl (.inl rfl)) (pss_one (ps_if (pt_cmpR op_ne (pe_ix ix_str (pe_fld (pv 0) rfl) (pe_op op_sub (pv 2) pe_int) (fun _ _ => rfl)) (pe_ix ix_str (pe_fld (pv 0) rfl) (pv 2) (fun _ _ => rfl)) (nomark _)) (pss_one (ps_expr (pe_bm PySem.F.plainAttrs_list PySem.F.slot_list_append PySem.F.type_list_append mt_append (pv 1) (pa_cons (pe_tup (pa_cons (pv 2) (pa_cons (pe_ifExp (pt_cmpR op_eq (pe_ix ix_str (pe_fld (pv 0) rfl) (pv 2) (fun _ _ => rfl)) pe_str (nomark _)) pe_str pe_str) pa_nil))) pa_nil)))) pss_nil)))
      (pss_one (ps_ret (pe_tupleOf (by rfl) T.tuple_ (pv 1)))))), ?_⟩
    simp [tSeq, tIfS, tOr, tAnd, tNot, tB, tCB, tCons, tNil, tVar, tC, tTest, tChain, rI0, rI, tOp, tUn, rU, tRet, tRetN, tNext, rNe, rEq, tAug, tAsg, gName, ipI, tDrop, tIf, tFld, tM1, tTup, tLst, tSl, tPart, rSlS, rIxS, tCall, tMeth, tProp, tMake, gTup, gCons, gNil, tPar, rAppend, tyV, tThen, tNotN, tIsN, tNotV, tRg1, tLstRg, scal, flds_word, gSub, tBM, S_len, S_app, S_count, S_take, S_drop, S_cut, S_rep, lit_d, lit_o, lit_do, lit_od, lit_e, L2.start, wipe, and_assoc, tAndV, tOrV, tNoPart, Int.ofNat_inj]
    intro q hq
    have hp0 := some_new (x := HO.lst []) hp hq
    obtain ⟨Pv, hPv⟩ : ∃ Pv : Nat → L2.St → Hp → Prop, ∀ i σ H2, Pv i σ H2 ↔ ∃ (b : Option V) (acc : List V) (ds : List (Nat × Bool)), σ = [some (.ref p), some (.ref q), b] ∧ H2 q = some (.lst acc) ∧ SX [q] H H2 ∧ DpAll K (nwx [q] H H2) acc (ds.map dCr) ∧ ds.length ≤ i ∧ ds ++ creasesGo u (u.length - 1 - i) (i + 1) = creasesM u := ⟨_, fun _ _ _ => Iff.rfl⟩
    refine forJ (Itr 1 (u.length - 1)) _ (fun R r => by simp [tSeq, tIfS, tOr, tAnd, tNot, tB, tCB, tCons, tNil, tVar, tC, tTest, tChain, rI0, rI, tOp, tUn, rU, tRet, tRetN, tNext, rNe, rEq, tAug, tAsg, gName, ipI, tDrop, tIf, tFld, tM1, tTup, tLst, tSl, tPart, rSlS, rIxS, tCall, tMeth, tProp, tMake, gTup, gCons, gNil, tPar, rAppend, tyV, tThen, tNotN, tIsN, tNotV, tRg1, tLstRg, scal, flds_word, gSub, tBM, S_len, S_app, S_count, S_take, S_drop, S_cut, S_rep, lit_d, lit_o, lit_do, lit_od, lit_e, L2.start, wipe, and_assoc, tAndV, tOrV, tNoPart, Int.ofNat_inj, iRng2, hp0, T.cl, T.nW]; exact ⟨small (by omega), by omega, r⟩) (for_range (n := u.length - 1) Pv ((hPv _ _ _).mpr ⟨none, [], [], rfl, upd_same, (SX.of (same_new hq)), .nil, by simp, rfl⟩) ?_ ?_)
    · intro i σ H2 hi hP
      obtain ⟨_, acc, ds, rfl, h2, e2, hd, hdl, hM⟩ := (hPv _ _ _).mp hP
      have hL : ∃ xs, SqL K H2 q xs := ⟨_, sqL_of h2⟩
      have hX : ∀ x ∈ [q], ∃ o, H2 x = some o := by simp [h2]
      have hpn : ¬ p ∈ [q] := by
        simp
        exact ne_of_none hp hq
      have hp2 := e2 _ _ hp hpn
      obtain ⟨t, et⟩ : ∃ t, t = i + 1 := ⟨_, rfl⟩
      have ei : (1 : Int) + (i : Int) = (t : Int) := by omega
      have a1 := bt_at u (i := i) (by omega)
      have a2 := bt_at u (i := t) (by omega)
      have hsz : u.length ≤ sizeLine := small (by omega)
      rw [show u.length - 1 - i = (u.length - 1 - t) + 1 from by omega, ← et] at hM
      have es : (t : Int) - 1 = (i : Int) := by omega
      have et' : t - 1 = i := by omega
      have hal : acc.length = ds.length := by rw [dpA_len hd, List.length_map]
      rw [ei, ← et]
      by_cases hb : bt u i = bt u t
      · simp [tSeq, tIfS, tOr, tAnd, tNot, tB, tCB, tCons, tNil, tVar, tC, tTest, tChain, rI0, rI, tOp, tUn, rU, tRet, tRetN, tNext, rNe, rEq, tAug, tAsg, gName, ipI, tDrop, tIf, tFld, tM1, tTup, tLst, tSl, tPart, rSlS, rIxS, tCall, tMeth, tProp, tMake, gTup, gCons, gNil, tPar, rAppend, tyV, tThen, tNotN, tIsN, tNotV, tRg1, tLstRg, scal, flds_word, gSub, tBM, S_len, S_app, S_count, S_take, S_drop, S_cut, S_rep, lit_d, lit_o, lit_do, lit_od, lit_e, L2.start, wipe, and_assoc, tAndV, tOrV, tNoPart, Int.ofNat_inj, hL, hp2, T.cl, T.nW, a1, a2, hsz, es, eq_true hb]
        refine (hPv _ _ _).mpr ⟨_, acc, ds, rfl, h2, e2, hd, by omega, ?_⟩
        rw [← hM]
        simp [creasesGo, et', same_bt, hb]
      · have hM2 : ds ++ [(t, !bt u t)] ++ creasesGo u (u.length - 1 - t) (t + 1) = creasesM u := by
          rw [← hM]
          simp [creasesGo, et', same_bt, hb]
          rfl
        simp [tSeq, tIfS, tOr, tAnd, tNot, tB, tCB, tCons, tNil, tVar, tC, tTest, tChain, rI0, rI, tOp, tUn, rU, tRet, tRetN, tNext, rNe, rEq, tAug, tAsg, gName, ipI, tDrop, tIf, tFld, tM1, tTup, tLst, tSl, tPart, rSlS, rIxS, tCall, tMeth, tProp, tMake, gTup, gCons, gNil, tPar, rAppend, tyV, tThen, tNotN, tIsN, tNotV, tRg1, tLstRg, scal, flds_word, gSub, tBM, S_len, S_app, S_count, S_take, S_drop, S_cut, S_rep, lit_d, lit_o, lit_do, lit_od, lit_e, L2.start, wipe, and_assoc, tAndV, tOrV, tNoPart, Int.ofNat_inj, hL, hp2, T.cl, T.nW, a1, a2, hsz, es, eq_false hb]
        cases hc : bt u t
        all_goals simp [tSeq, tIfS, tOr, tAnd, tNot, tB, tCB, tCons, tNil, tVar, tC, tTest, tChain, rI0, rI, tOp, tUn, rU, tRet, tRetN, tNext, rNe, rEq, tAug, tAsg, gName, ipI, tDrop, tIf, tFld, tM1, tTup, tLst, tSl, tPart, rSlS, rIxS, tCall, tMeth, tProp, tMake, gTup, gCons, gNil, tPar, rAppend, tyV, tThen, tNotN, tIsN, tNotV, tRg1, tLstRg, scal, flds_word, gSub, tBM, S_len, S_app, S_count, S_take, S_drop, S_cut, S_rep, lit_d, lit_o, lit_do, lit_od, lit_e, L2.start, wipe, and_assoc, tAndV, tOrV, tNoPart, Int.ofNat_inj, hL, hp2, T.cl, T.nW, a1, a2, hsz, es, eq_false hb, hc]
        all_goals intro a ha
        all_goals refine ⟨acc, some_new h2 ha, small' (by omega), (hPv _ _ _).mpr ?_⟩
        all_goals rw [hc] at hM2
        · obtain ⟨e4, d4⟩ := app_tup (q := q) (xs := [.int (t : Int), .str "hollow"]) e2 hX (by simp) ha hd (.cons (.int _) (.cons (.str _) .nil))
          exact ⟨_, _, ds ++ [(t, true)], rfl, upd_same, e2.trans e4, by rw [List.map_append]; exact d4, by simp; omega, hM2⟩
        · obtain ⟨e4, d4⟩ := app_tup (q := q) (xs := [.int (t : Int), .str "ridge"]) e2 hX (by simp) ha hd (.cons (.int _) (.cons (.str _) .nil))
          exact ⟨_, _, ds ++ [(t, false)], rfl, upd_same, e2.trans e4, by rw [List.map_append]; exact d4, by simp; omega, hM2⟩
    · intro σ H2 hP
      obtain ⟨_, acc, ds, rfl, h2, e2, hd, hdl, hM⟩ := (hPv _ _ _).mp hP
      simp [tSeq, tIfS, tOr, tAnd, tNot, tB, tCB, tCons, tNil, tVar, tC, tTest, tChain, rI0, rI, tOp, tUn, rU, tRet, tRetN, tNext, rNe, rEq, tAug, tAsg, gName, ipI, tDrop, tIf, tFld, tM1, tTup, tLst, tSl, tPart, rSlS, rIxS, tCall, tMeth, tProp, tMake, gTup, gCons, gNil, tPar, rAppend, tyV, tThen, tNotN, tIsN, tNotV, tRg1, tLstRg, scal, flds_word, gSub, tBM, S_len, S_app, S_count, S_take, S_drop, S_cut, S_rep, lit_d, lit_o, lit_do, lit_od, lit_e, L2.start, wipe, and_assoc, tAndV, tOrV, tNoPart, Int.ofNat_inj]
      refine kTup_l (sqL_of h2) fun t ht => k _ _ ((e2.same (by simp [hq])).trans (same_new ht)) ?_
      have h0 := new_old e2 (by simp [h2]) ht
      rw [Nat.sub_self] at hM
      simp [creasesGo] at hM
      unfold dCrs
      rw [← hM]
      exact dp_tup (by rw [nw_at h0, upd_same]) (DpAll.same hd (nwx_nw.trans (nw_new ht)))
/-! ### ridges -/
theorem creases_len (u : Wd) : ∀ (n t : Nat), (creasesGo u n t).length ≤ n
  | 0, _ => Nat.le_refl _
  | n + 1, t => by
    have := creases_len u n (t + 1)
    unfold creasesGo
    split
    · simp
      omega
    · omega
theorem ridges_le (u : Wd) : ridgesM u ≤ u.length - 1 := Nat.le_trans (List.length_filter_le _ _) (creases_len u _ _)
theorem cl_ridges (T : Txt K mg C) (c : ClP P w K mg base 1 C "creases" (spGet K C dCrs)) (D : DfP K C "ridges" "Column.ridges" s_ridges) : ClP P w K mg base 3 C "ridges" (spGet K C fun u => .int (ridgesM u : Nat)) := by
  obtain ⟨_, g_creases, fd_creases, p_creases, F_creases, b_creases⟩ := c
  refine D.cl fun f fd F => F.ok sc_ridges (fun vs H Q E h => ?_) (fun cdv A outer s H vs Q E hr h => ?_)
  · obtain ⟨p, u, rfl, _⟩ := h
    rfl
  · obtain ⟨p, u, rfl, ⟨dx, hp⟩, hl, k⟩ := h
    refine ⟨_, (pss_one (ps_ret (pe_callB call_len_seq (by rfl) T.len_ PySem.boot_len (pa_cons (pe_lc (own := [("bend", 1)]) (by rfl) sc_ridges.nd (pi_tup (pe_prop (pv 0) T.cl p_creases F_creases (hr.mono (by decide)) b_creases .nil pass0 rfl)) (blkOk_by (N := ["self", "bend"]) (sc := defScope s_ridges) (own := [("bend", 1)]) (by decide +kernel)) (fun _ _ _ _ _ => pg_name (i := 1) sc_ridges.nd rfl (.inl rfl)) (fun _ _ _ _ _ => pts_one (pt_cmpR op_eq (pe_ix (show IxR _ (rIxT K) from ix_tup) (pv 1) pe_int (fun _ _ => rfl)) pe_str (nomark _))) (fun _ _ _ _ _ => (pv 1))) pa_nil)))), ?_⟩
    simp [tSeq, tIfS, tOr, tAnd, tNot, tB, tCB, tCons, tNil, tVar, tC, tTest, tChain, rI0, rI, tOp, tUn, rU, tRet, tRetN, tNext, rNe, rEq, tAug, tAsg, gName, ipI, tDrop, tIf, tFld, tM1, tTup, tLst, tSl, tPart, rSlS, rIxS, tCall, tMeth, tProp, tMake, gTup, gCons, gNil, tPar, rAppend, tyV, tThen, tNotN, tIsN, tNotV, tRg1, tLstRg, scal, flds_word, gSub, tBM, S_len, S_app, S_count, S_take, S_drop, S_cut, S_rep, lit_d, lit_o, lit_do, lit_od, lit_e, L2.start, wipe, and_assoc, tAndV, tOrV, tNoPart, Int.ofNat_inj]
    refine ⟨_, rfl, p, dx, _, rfl, hp, p, u, rfl, ⟨dx, hp⟩, hl, fun H1 v e1 hv => ?_⟩
    obtain ⟨a, xs, rfl, hs, hd⟩ := dp_tupI hv
    refine ⟨a, rfl, ⟨xs, seqT_same nw_sub hs⟩, fun D hD => lc_tupR (F := nw H H1) hs hd (fun r acc H2 => Same H1 H2 ∧ ∃ cs : List (Nat × Bool), r = cs.map dCr ∧ acc.length + (cs.filter fun c => !c.2).length = ridgesM u) (fun r acc H2 h => nw_sub.trans h.1) ⟨same_new hD, creasesM u, rfl, by simp [ridgesM]⟩ ?_ ?_⟩
    · rintro d r acc v H2 hD2 ⟨e2, cs, hcs, hn⟩ hv
      cases cs with
      | nil => cases hcs
      | cons c cs =>
        obtain ⟨rfl, rfl⟩ := List.cons.inj hcs
        obtain ⟨a2, ys, rfl, hs2, hd2⟩ := dp_tupI hv
        obtain ⟨v1, h1, hv1⟩ := dpA_get (i := 1) hd2 rfl
        have := dp_strI hv1
        subst this
        have hr12 := ridges_le u
        have hi := rIxT_i (Q := fun x H3 => ∃ k : Str, x = V.str k ∧ k = (if c.2 then ("hollow" : Str) else ("ridge" : Str)) ∧ H3 = H2) (seqT_same (nw_sub.trans e2) hs2) (at_lt h1) ⟨_, rfl, rfl, rfl⟩
        obtain ⟨p', xs', i', w', e', e'', hs', ha', k', ek', ek2, eH⟩ := hi
        simp [LcTurn, LcN, tSeq, tIfS, tOr, tAnd, tNot, tB, tCB, tCons, tNil, tVar, tC, tTest, tChain, rI0, rI, tOp, tUn, rU, tRet, tRetN, tNext, rNe, rEq, tAug, tAsg, gName, ipI, tDrop, tIf, tFld, tM1, tTup, tLst, tSl, tPart, rSlS, rIxS, tCall, tMeth, tProp, tMake, gTup, gCons, gNil, tPar, rAppend, tyV, tThen, tNotN, tIsN, tNotV, tRg1, tLstRg, scal, flds_word, gSub, tBM, S_len, S_app, S_count, S_take, S_drop, S_cut, S_rep, lit_d, lit_o, lit_do, lit_od, lit_e, L2.start, wipe, and_assoc, tAndV, tOrV, tNoPart, Int.ofNat_inj, hD2]
        refine ⟨p', xs', i', w', e', e'', hs', ha', ?_⟩
        cases hc : c.2
        · simp [hc] at hn ek2
          subst ek2
          subst ek'
          simp
          exact ⟨acc, hD2, small' (by omega), acc ++ [.ref a2], upd_same, same_mut e2 hD, _, rfl, by simp; omega⟩
        · simp [hc] at hn ek2
          subst ek2
          subst ek'
          have : ¬ (Str.ofString "hollow" = Str.ofString "ridge") := by decide +kernel
          simp [this]
          exact ⟨_, hD2, e2, cs, rfl, hn⟩
    · rintro acc H2 hD2 ⟨e2, cs, hcs, hn⟩
      cases cs with
      | cons c cs => cases hcs
      | nil =>
        simp at hn
        refine ⟨D, rfl, acc, .inl (sqL_of hD2), ?_⟩
        rw [hn]
        exact k _ _ (e1.trans e2) (.int _)
/-! ### height -/
def spIs : Sp := fun vs H Q _ => ∃ t lo hi : Int, vs = [.int t, .int lo, .int hi] ∧ ∀ H', Same H H' → Q (.bl (decide (lo ≤ t ∧ t ≤ hi))) H'
def spHeight (C : Addr) : Sp := fun vs H Q _ => ∃ (p : Addr) (u : Wd) (t : Nat), vs = [.ref p, .int (t : Int)] ∧ ColAt C H p u ∧ u.length ≤ 12 ∧ t ≤ u.length ∧ ∀ H', Same H H' → Q (.int ((heightsM u).getD t 0)) H'
theorem ok_height (T : Txt K mg C) (c : ClP P w K mg base 1 C "heights" (spGet K C dHs)) (c1 : Cl P w K mg base 1 "is_whole" ["thing", "low", "high"] spIs) {f : Addr} {fd : FuncData} (F : Fun K "height" "Column.height" s_height f fd) : FnOk P w K mg base CX0 3 f fd ["self", "boundary"] (spHeight C) := by
  obtain ⟨_, g_heights, fd_heights, p_heights, F_heights, b_heights⟩ := c
  obtain ⟨f_is_whole, fd_is_whole, F_is_whole, g_is_whole, k_is_whole, b_is_whole⟩ := c1
  refine F.ok sc_height (fun vs H Q E h => ?_) (fun cdv A outer s H vs Q E hr h => ?_)
  · obtain ⟨p, u, t, rfl, _⟩ := h
    rfl
  · obtain ⟨p, u, t, rfl, ⟨dx, hp⟩, hl, ht, k⟩ := h
    refine ⟨_, (pss_cons (ps_if (pt_not (pt_val (pe_call F_is_whole (hr.mono (by decide)) (by rfl) g_is_whole k_is_whole b_is_whole .nil pass0 (pa_cons (pv 1) (pa_cons pe_int (pa_cons (pe_callB call_len_str (by rfl) T.len_ PySem.boot_len (pa_cons (pe_fld (pv 0) rfl) pa_nil)) pa_nil)))))) (pss_one ps_never) pss_nil)
      (pss_one (ps_ret (pe_ix ix_tup (pe_prop (pv 0) T.cl p_heights F_heights (hr.mono (by decide)) b_heights .nil pass0 rfl) (pv 1) (fun _ _ => rfl))))), ?_⟩
    simp [tSeq, tIfS, tOr, tAnd, tNot, tB, tCB, tCons, tNil, tVar, tC, tTest, tChain, rI0, rI, tOp, tUn, rU, tRet, tRetN, tNext, rNe, rEq, tAug, tAsg, gName, ipI, tDrop, tIf, tFld, tM1, tTup, tLst, tSl, tPart, rSlS, rIxS, tCall, tMeth, tProp, tMake, gTup, gCons, gNil, tPar, rAppend, tyV, tThen, tNotN, tIsN, tNotV, tRg1, tLstRg, scal, flds_word, gSub, tBM, S_len, S_app, S_count, S_take, S_drop, S_cut, S_rep, lit_d, lit_o, lit_do, lit_od, lit_e, L2.start, wipe, and_assoc, tAndV, tOrV, tNoPart, Int.ofNat_inj, hp, T.cl, T.nW]
    refine ⟨small (by omega), _, _, _, rfl, fun H1 e1 => .inr ⟨by simp; omega, ⟨_, _, e1 _ _ hp⟩, p, u, rfl, ⟨dx, e1 _ _ hp⟩, hl, fun H2 v e2 hv => ?_⟩⟩
    obtain ⟨a, xs, rfl, hs, hd⟩ := dp_tupI hv
    have := ints_dpA _ hd
    subst this
    have hln : (heightsM u).length = u.length + 1 := by simp [heightsM, heightsGo_len]
    refine rIxT_i (seqT_same nw_sub hs) (at_lt (v := .int ((heightsM u).getD t 0)) ?_) (k _ (e1.trans e2))
    rw [List.getElem?_map, List.getElem?_eq_getElem (by omega), List.getD_eq_getElem?_getD, List.getElem?_eq_getElem (by omega)]
    rfl
end
end K12
set_option Elab.async false
set_option linter.all false
set_option maxRecDepth 100000
set_option maxHeartbeats 4000000
namespace K12
open PySem PySem.Spec PyProof.Rows L2 K12M
abbrev s_is_whole : Stmt := top 8
theorem sc_is_whole : FnScope ["thing", "low", "high"] ["thing", "low", "high"] (defScope s_is_whole) := ⟨rfl, rfl, rfl, by decide +kernel, rfl, by decide +kernel, by decide +kernel⟩
abbrev s_pull_word : Stmt := top 12
theorem sc_pull_word : FnScope ["pull", "item"] ["pull"] (defScope s_pull_word) := ⟨rfl, rfl, rfl, by decide +kernel, rfl, by decide +kernel, by decide +kernel⟩
abbrev s_pull_trouble : Stmt := top 13
theorem sc_pull_trouble : FnScope ["column", "pull", "boundary", "downs", "outs", "letter", "first", "many"] ["column", "pull"] (defScope s_pull_trouble) := ⟨rfl, rfl, rfl, by decide +kernel, rfl, by decide +kernel, by decide +kernel⟩
abbrev s_pulled_column : Stmt := top 14
theorem sc_pulled_column : FnScope ["column", "pulls", "here", "index", "pull", "what", "boundary", "downs", "outs", "middle"] ["column", "pulls"] (defScope s_pulled_column) := ⟨rfl, rfl, rfl, by decide +kernel, rfl, by decide +kernel, by decide +kernel⟩
section
variable {P : Program} {w : World} {K : PySem.W.Frag} {mg : Str → Option Value} {base : Heap} {C : Addr}
theorem isi_ii {H : Hp} {i : Int} {Q : VK} (q : Q (.bl true) H) : rIsi K [.int i, .ty "int"] H Q := ⟨_, _, .type "int", .type "int", true, rfl, .ty _, .base (.int _), kit_ty (by decide +kernel), q⟩
theorem isi_ib {H : Hp} {i : Int} {Q : VK} (q : Q (.bl false) H) : rIsi K [.int i, .ty "bool"] H Q := ⟨_, _, .type "int", .type "bool", false, rfl, .ty _, .base (.int _), kit_ty (by decide +kernel), q⟩
theorem tyX_tup {H : Hp} {a : Addr} {xs : List V} (h : SqT K H a xs) : TyX K H (.ref a) (.type "tuple") := by
  rcases h with (h | ⟨o, h⟩) | ⟨o, its, n, h, c, _⟩
  · exact .base (.tup h)
  · exact .fTuple h
  · exact .kTuple h c
theorem isi_tt {H : Hp} {a : Addr} {xs : List V} {Q : VK} (h : SqT K H a xs) (q : Q (.bl true) H) : rIsi K [.ref a, .ty "tuple"] H Q := ⟨_, _, .type "tuple", .type "tuple", true, rfl, .ty _, tyX_tup h, kit_ty (by decide +kernel), q⟩
theorem isi_tl {H : Hp} {a p : Addr} {xs : List V} {Q : VK} (h : SqT K H a xs) (hp : H p = some (.tup [.ty "list", .ty "tuple"])) (q : Q (.bl true) H) : rIsiT K [.ref a, .ref p] H Q :=
  ⟨_, p, _, .type "tuple", [.type "list", .type "tuple"], true, rfl, hp, .cons (.ty _) (.cons (.ty _) .nil), tyX_tup h, kitAny_cons (b := false) (kit_ty (by decide +kernel)) (fun _ => kitAny_cons (b := true) (kit_ty (by decide +kernel)) (fun e => by cases e) fun _ => rfl) (fun e => by cases e), q⟩
/-! ### is_whole -/
theorem cl_is_whole (T : Txt K mg C) (D : Df K mg "is_whole" s_is_whole ["thing", "low", "high"]) : Cl P w K mg base 1 "is_whole" ["thing", "low", "high"] spIs := by
  refine D.cl fun f fd F => F.ok sc_is_whole (fun vs H Q E h => ?_) (fun cdv A outer s H vs Q E hr h => ?_)
  · obtain ⟨t, lo, hi, rfl, _⟩ := h
    rfl
  · obtain ⟨t, lo, hi, rfl, k⟩ := h
    refine ⟨_, (pss_one (ps_ret (pe_and (pe_callB call_isi (by rfl) T.isinstance_ (by decide +kernel) (pa_cons (pv 0) (pa_cons (pe_bltn (v := .ty "int") (u := .type "int") (by rfl) T.int_ (by decide +kernel) rfl) pa_nil))) (pe_and (pe_not (pe_callB call_isi (by rfl) T.isinstance_ (by decide +kernel) (pa_cons (pv 0) (pa_cons (pe_bltn (v := .ty "bool") (u := .type "bool") (by rfl) T.bool_ (by decide +kernel) rfl) pa_nil)))) (pe_one (pe_chain op_le op_le (pv 1) (pv 0) (pv 2))))))), ?_⟩
    simp [tSeq, tIfS, tOr, tAnd, tNot, tB, tCB, tCons, tNil, tVar, tC, tTest, tChain, rI0, rI, tOp, tUn, rU, tRet, tRetN, tNext, rNe, rEq, tAug, tAsg, gName, ipI, tDrop, tIf, tFld, tM1, tTup, tLst, tSl, tPart, rSlS, rIxS, tCall, tMeth, tProp, tMake, gTup, gCons, gNil, tPar, rAppend, tyV, tThen, tNotN, tIsN, tNotV, tRg1, tLstRg, scal, flds_word, gSub, tBM, S_len, S_app, S_count, S_take, S_drop, S_cut, S_rep, lit_d, lit_o, lit_do, lit_od, lit_e, L2.start, wipe, and_assoc, tAndV, tOrV, tNoPart, Int.ofNat_inj]
    refine isi_ii ?_
    simp [tSeq, tIfS, tOr, tAnd, tNot, tB, tCB, tCons, tNil, tVar, tC, tTest, tChain, rI0, rI, tOp, tUn, rU, tRet, tRetN, tNext, rNe, rEq, tAug, tAsg, gName, ipI, tDrop, tIf, tFld, tM1, tTup, tLst, tSl, tPart, rSlS, rIxS, tCall, tMeth, tProp, tMake, gTup, gCons, gNil, tPar, rAppend, tyV, tThen, tNotN, tIsN, tNotV, tRg1, tLstRg, scal, flds_word, gSub, tBM, S_len, S_app, S_count, S_take, S_drop, S_cut, S_rep, lit_d, lit_o, lit_do, lit_od, lit_e, L2.start, wipe, and_assoc, tAndV, tOrV, tNoPart, Int.ofNat_inj]
    refine isi_ib ?_
    simp [tSeq, tIfS, tOr, tAnd, tNot, tB, tCB, tCons, tNil, tVar, tC, tTest, tChain, rI0, rI, tOp, tUn, rU, tRet, tRetN, tNext, rNe, rEq, tAug, tAsg, gName, ipI, tDrop, tIf, tFld, tM1, tTup, tLst, tSl, tPart, rSlS, rIxS, tCall, tMeth, tProp, tMake, gTup, gCons, gNil, tPar, rAppend, tyV, tThen, tNotN, tIsN, tNotV, tRg1, tLstRg, scal, flds_word, gSub, tBM, S_len, S_app, S_count, S_take, S_drop, S_cut, S_rep, lit_d, lit_o, lit_do, lit_od, lit_e, L2.start, wipe, and_assoc, tAndV, tOrV, tNoPart, Int.ofNat_inj]
    have := k H (Same.refl _)
    by_cases h1 : lo ≤ t
    · simp [h1] at this ⊢
      exact this
    · simp [h1] at this ⊢
      exact this
theorem hu65_of {k : Nat} {A : Around} (hr : Room k A) : A.units + 65 < cLine := by
  have := hr.un
  omega
theorem shp : ∀ {ds : List PyData} {n : Nat}, (∀ x ∈ ds, x.canLay0 = true ∧ x.depth ≤ n) → PyData.canLayAll0 ds = true ∧ PyData.depthAll ds ≤ n
  | [], n, _ => ⟨rfl, Nat.zero_le _⟩
  | d :: ds, n, h => by
    obtain ⟨h1, h2⟩ := h d (by simp)
    obtain ⟨h3, h4⟩ := shp (ds := ds) fun x hx => h x (by simp [hx])
    exact ⟨by simp [PyData.canLayAll0, h1, h3], by simp [PyData.depthAll]; omega⟩
theorem shp_list {ds : List PyData} {n : Nat} (hn : n ≤ 63) (h : ∀ x ∈ ds, x.canLay0 = true ∧ x.depth ≤ n) : SeqAt.shaped (.list ds) = true := by
  obtain ⟨h1, h2⟩ := shp h
  simp [SeqAt.shaped, PyData.canLay0, PyData.depth, h1]
  omega
/-! ### pull_word -/
def dPull (q : Pull) : PyData := .tuple [.int (q.1 : Nat), .int (q.2.1 : Nat), .int (q.2.2 : Nat)]
def spPW (K : PySem.W.Frag) : Sp := fun vs H Q _ => ∃ (v : V) (q : Pull), vs = [v] ∧ Dp K H v (dPull q) ∧ 1 ≤ q.2.1 ∧ 1 ≤ q.2.2 ∧ ∀ H', Same H H' → Q .non H'
theorem cl_pull_word (T : Txt K mg C) (D : Df K mg "pull_word" s_pull_word ["pull"]) : Cl P w K mg base 1 "pull_word" ["pull"] (spPW K) := by
  refine D.cl fun f fd F => F.ok sc_pull_word (fun vs H Q E h => ?_) (fun cdv A outer s H vs Q E hr h => ?_)
  · obtain ⟨v, q, rfl, _⟩ := h
    rfl
  · obtain ⟨v, q, rfl, hv, h1, h2, k⟩ := h
    obtain ⟨a, xs, rfl, hs, hd⟩ := dp_tupI hv
    have := ints_dpA [(q.1 : Int), (q.2.1 : Int), (q.2.2 : Int)] hd
    subst this
    refine ⟨_, (pss_cons (ps_if (PW.pt (pw_or (pt_not (pt_val (pe_callB call_isiT (by rfl) T.isinstance_ (by decide +kernel) (pa_cons (pv 0) (pa_cons (pe_tup (pa_cons (pe_bltn (v := .ty "list") (u := .type "list") (by rfl) T.list_ (by decide +kernel) rfl) (pa_cons (pe_bltn (v := .ty "tuple") (u := .type "tuple") (by rfl) T.tuple_ (by decide +kernel) rfl) pa_nil))) pa_nil))))) (pw_or1 (pt_cmpR op_ne (pe_callB call_len_seq (by rfl) T.len_ PySem.boot_len (pa_cons (pv 0) pa_nil)) pe_int (nomark _))))) (pss_one (ps_ret pe_str)) pss_nil)
      (pss_cons (ps_if (pt_truth (pe_lc (own := [("item", 1)]) (by rfl) sc_pull_word.nd (pi_tup (pv 0)) (blkOk_by (N := ["pull", "item"]) (sc := defScope s_pull_word) (own := [("item", 1)]) (by decide +kernel)) (fun _ _ _ _ _ => pg_name (i := 1) sc_pull_word.nd rfl (.inl rfl)) (fun _ _ _ _ _ => pts_one (PW.pt (pw_or (pt_not (pt_val (pe_callB (show CallR _ (.builtin "isinstance") (rIsi K) from call_isi) (by rfl) T.isinstance_ (by decide +kernel) (pa_cons (pv 1) (pa_cons (pe_bltn (v := .ty "int") (u := .type "int") (by rfl) T.int_ (by decide +kernel) rfl) pa_nil))))) (pw_or1 (pt_val (pe_callB (show CallR _ (.builtin "isinstance") (rIsi K) from call_isi) (by rfl) T.isinstance_ (by decide +kernel) (pa_cons (pv 1) (pa_cons (pe_bltn (v := .ty "bool") (u := .type "bool") (by rfl) T.bool_ (by decide +kernel) rfl) pa_nil)))))))) (fun _ _ _ _ _ => (pv 1))) (by intro _; rfl)) (pss_one (ps_ret pe_str)) pss_nil)
      (pss_cons (ps_if (PW.pt (pw_or (pt_cmpR op_lt (pe_ix ix_tup (pv 0) pe_int (fun _ _ => rfl)) pe_int (nomark _)) (pw_or1 (pt_cmpR op_lt (pe_ix ix_tup (pv 0) pe_int (fun _ _ => rfl)) pe_int (nomark _))))) (pss_one (ps_ret pe_str)) pss_nil)
      (pss_one (ps_ret pe_non))))), ?_⟩
    simp [tSeq, tIfS, tOr, tAnd, tNot, tB, tCB, tCons, tNil, tVar, tC, tTest, tChain, rI0, rI, tOp, tUn, rU, tRet, tRetN, tNext, rNe, rEq, tAug, tAsg, gName, ipI, tDrop, tIf, tFld, tM1, tTup, tLst, tSl, tPart, rSlS, rIxS, tCall, tMeth, tProp, tMake, gTup, gCons, gNil, tPar, rAppend, tyV, tThen, tNotN, tIsN, tNotV, tRg1, tLstRg, scal, flds_word, gSub, tBM, S_len, S_app, S_count, S_take, S_drop, S_cut, S_rep, lit_d, lit_o, lit_do, lit_od, lit_e, L2.start, wipe, and_assoc, tAndV, tOrV, tNoPart, Int.ofNat_inj]
    intro t ht
    have e1 := same_new (o := HO.tup [V.ty "list", V.ty "tuple"]) ht
    refine isi_tl (seqT_same e1 hs) upd_same ?_
    simp [tSeq, tIfS, tOr, tAnd, tNot, tB, tCB, tCons, tNil, tVar, tC, tTest, tChain, rI0, rI, tOp, tUn, rU, tRet, tRetN, tNext, rNe, rEq, tAug, tAsg, gName, ipI, tDrop, tIf, tFld, tM1, tTup, tLst, tSl, tPart, rSlS, rIxS, tCall, tMeth, tProp, tMake, gTup, gCons, gNil, tPar, rAppend, tyV, tThen, tNotN, tIsN, tNotV, tRg1, tLstRg, scal, flds_word, gSub, tBM, S_len, S_app, S_count, S_take, S_drop, S_cut, S_rep, lit_d, lit_o, lit_do, lit_od, lit_e, L2.start, wipe, and_assoc, tAndV, tOrV, tNoPart, Int.ofNat_inj]
    refine ⟨_, .inr (seqT_same e1 hs), ?_⟩
    simp [tSeq, tIfS, tOr, tAnd, tNot, tB, tCB, tCons, tNil, tVar, tC, tTest, tChain, rI0, rI, tOp, tUn, rU, tRet, tRetN, tNext, rNe, rEq, tAug, tAsg, gName, ipI, tDrop, tIf, tFld, tM1, tTup, tLst, tSl, tPart, rSlS, rIxS, tCall, tMeth, tProp, tMake, gTup, gCons, gNil, tPar, rAppend, tyV, tThen, tNotN, tIsN, tNotV, tRg1, tLstRg, scal, flds_word, gSub, tBM, S_len, S_app, S_count, S_take, S_drop, S_cut, S_rep, lit_d, lit_o, lit_do, lit_od, lit_e, L2.start, wipe, and_assoc, tAndV, tOrV, tNoPart, Int.ofNat_inj]
    refine ⟨_, rfl, _, rfl, ⟨_, seqT_same e1 hs⟩, fun D hD => lc_tupR (F := H) hs hd (fun r acc H2 => acc = [] ∧ Same H H2 ∧ ∃ ns : List Int, r = ns.map PyData.int) (fun r acc H2 h => h.2.1) ⟨rfl, e1.trans (same_new hD), [(q.1 : Int), (q.2.1 : Int), (q.2.2 : Int)], rfl⟩ ?_ ?_⟩
    · rintro d r acc v H2 hD2 ⟨rfl, e2, ns, hns⟩ hv
      cases ns with
      | nil => cases hns
      | cons n ns =>
        obtain ⟨rfl, rfl⟩ := List.cons.inj hns
        have := dp_intI hv
        subst this
        simp [LcTurn, LcN, tSeq, tIfS, tOr, tAnd, tNot, tB, tCB, tCons, tNil, tVar, tC, tTest, tChain, rI0, rI, tOp, tUn, rU, tRet, tRetN, tNext, rNe, rEq, tAug, tAsg, gName, ipI, tDrop, tIf, tFld, tM1, tTup, tLst, tSl, tPart, rSlS, rIxS, tCall, tMeth, tProp, tMake, gTup, gCons, gNil, tPar, rAppend, tyV, tThen, tNotN, tIsN, tNotV, tRg1, tLstRg, scal, flds_word, gSub, tBM, S_len, S_app, S_count, S_take, S_drop, S_cut, S_rep, lit_d, lit_o, lit_do, lit_od, lit_e, L2.start, wipe, and_assoc, tAndV, tOrV, tNoPart, Int.ofNat_inj, hD2]
        refine isi_ii ?_
        simp
        refine isi_ib ?_
        simp
        exact ⟨_, hD2, rfl, e2, ns, rfl⟩
    · rintro acc H2 hD2 ⟨rfl, e2, _⟩
      refine .inl ⟨?_, ?_⟩
      · simp [TruV]
        exact .inl (sqL_of hD2)
      · refine rIxT_i (seqT_same e2 hs) (at_lt (i := 1) rfl) ?_
        simp
        rw [if_neg (by omega)]
        refine rIxT_i (seqT_same e2 hs) (at_lt (i := 2) rfl) ?_
        simp
        rw [if_neg (by omega)]
        exact k _ e2
/-! ### pull_trouble -/
theorem dCr_lay (c : Nat × Bool) : (dCr c).canLay0 = true ∧ (dCr c).depth ≤ 1 := by
  obtain ⟨t, b⟩ := c
  have h1 : PyData.strOk (("hollow" : Str)) = true := by decide +kernel
  have h2 : PyData.strOk (("ridge" : Str)) = true := by decide +kernel
  cases b <;> simp [dCr, PyData.canLay0, PyData.canLayAll0, PyData.depth, PyData.depthAll, h1, h2]
theorem dCr_ok (c : Nat × Bool) : SeqAt.shaped (dCr c) = true := by
  obtain ⟨h1, h2⟩ := dCr_lay c
  simp [SeqAt.shaped, h1]
  omega
def spPT (K : PySem.W.Frag) (C : Addr) : Sp := fun vs H Q _ => ∃ (p : Addr) (u : Wd) (v : V) (q : Pull), vs = [.ref p, v] ∧ ColAt C H p u ∧ u.length ≤ 12 ∧ Dp K H v (dPull q) ∧ pullOk u q = true ∧ ∀ H', Same H H' → Q .non H'
theorem cl_pull_trouble (T : Txt K mg C) (cpw : Cl P w K mg base 1 "pull_word" ["pull"] (spPW K)) (ccr : ClP P w K mg base 1 C "creases" (spGet K C dCrs)) (cru : ClP P w K mg base 1 C "runs" (spGet K C dRuns)) {f_h : Addr} {fd_h : FuncData} (m_height : Meth K C "height" f_h) (F_height : FnOk P w K mg base CX0 3 f_h fd_h ["self", "boundary"] (spHeight C)) (b_height : Binds K fd_h ["self", "boundary"] [])
    (D : Df K mg "pull_trouble" s_pull_trouble ["column", "pull"]) : Cl P w K mg base 4 "pull_trouble" ["column", "pull"] (spPT K C) := by
  obtain ⟨f_pull_word, fd_pull_word, F_pull_word, g_pull_word, k_pull_word, b_pull_word⟩ := cpw
  obtain ⟨_, g_creases, fd_creases, p_creases, F_creases, b_creases⟩ := ccr
  obtain ⟨_, g_runs, fd_runs, p_runs, F_runs, b_runs⟩ := cru
  refine D.cl fun f fd F => F.ok sc_pull_trouble (fun vs H Q E h => ?_) (fun cdv A outer s H vs Q E hr h => ?_)
  · obtain ⟨p, u, v, q, rfl, _⟩ := h
    rfl
  · have hu65 := hu65_of hr
    obtain ⟨p, u, v, q, rfl, ⟨dx, hp⟩, hl, hv, hok, k⟩ := h
    obtain ⟨a, xs, rfl, hs, hd⟩ := dp_tupI hv
    have := ints_dpA [(q.1 : Int), (q.2.1 : Int), (q.2.2 : Int)] hd
    subst this
    unfold pullOk at hok
    have hok0 := hok
    simp only [Bool.and_eq_true] at hok0
    have hall : ∀ c ∈ runsM u, ¬ (c.2.1 + c.2.2 = q.1 ∧ c.2.2 < q.2.1) ∧ ¬ (c.2.1 = q.1 ∧ c.2.2 < q.2.2) := fun c hc => by
      have := List.all_eq_true.mp hok0.1.2 c hc
      simp at this
      refine ⟨fun h => ?_, fun h => ?_⟩
      · have h1 : Nat.blt c.2.2 q.2.1 = true := Nat.blt_eq.mpr h.2
        simp [h.1, h1] at this
      · have h1 : Nat.blt c.2.2 q.2.2 = true := Nat.blt_eq.mpr h.2
        simp [h.1, h1] at this
    simp [Nat.ble_eq, Nat.blt_eq] at hok
    obtain ⟨⟨hcr, hru⟩, hh, ho1, ho2, ho3, ho4⟩ := hok
    refine ⟨_, (pss_cons (ps_if (pt_cmpR op_notN (pe_call F_pull_word (hr.mono (by decide)) (by rfl) g_pull_word k_pull_word b_pull_word .nil pass0 (pa_cons (pv 1) pa_nil)) pe_non (nomark _)) (pss_one (ps_ret pe_str)) pss_nil)
      (pss_cons (ps_asg (pv 1) (pg_tup (n := 3) rfl (pgs_cons (pg_name (i := 2) sc_pull_trouble.nd rfl (.inl rfl)) (pgs_cons (pg_name (i := 3) sc_pull_trouble.nd rfl (.inl rfl)) (pgs_cons (pg_name (i := 4) sc_pull_trouble.nd rfl (.inl rfl)) pgs_nil)))))
      (pss_cons (ps_if (pt_cmpR (K12R.op_notInT hu65) (pe_tup (pa_cons (pv 2) (pa_cons pe_str pa_nil))) (pe_prop (pv 0) T.cl p_creases F_creases (hr.mono (by decide)) b_creases .nil pass0 rfl) (by rfl)) (pss_one (ps_ret pe_str)) pss_nil)
      (pss_cons (ps_for PassesOwn.never rfl (pi_tup (pe_prop (pv 0) T.cl p_runs F_runs (hr.mono (by decide)) b_runs .nil pass0 rfl)) (pg_tup (n := 3) rfl (pgs_cons (pg_name (i := 5) sc_pull_trouble.nd rfl (.inl rfl)) (pgs_cons (pg_name (i := 6) sc_pull_trouble.nd rfl (.inl rfl)) (pgs_cons (pg_name (i := 7) sc_pull_trouble.nd rfl (.inl rfl)) pgs_nil)))) (pss_one (ps_if (PW.pt (pw_or (PW.pt (pw_and (pt_cmpR op_eq (pe_op op_add (pv 6) (pv 7)) (pv 2) (nomark _)) (pw_and1 (pt_cmpR op_gt (pv 3) (pv 7) (nomark _))))) (pw_or1 (PW.pt (pw_and (pt_cmpR op_eq (pv 6) (pv 2) (nomark _)) (pw_and1 (pt_cmpR op_gt (pv 4) (pv 7) (nomark _)))))))) (pss_one (ps_ret pe_str)) pss_nil)))
      (pss_cons (ps_if (pt_cmpR op_gt (pe_op op_add (pv 3) (pv 4)) (pe_meth (pv 0) T.cl m_height F_height (hr.mono (by decide)) b_height .nil pass0 (pa_cons (pv 2) pa_nil)) (nomark _)) (pss_one (ps_ret pe_str)) pss_nil)
      (pss_one (ps_ret pe_non))))))), ?_⟩
    simp [tSeq, tIfS, tOr, tAnd, tNot, tB, tCB, tCons, tNil, tVar, tC, tTest, tChain, rI0, rI, tOp, tUn, rU, tRet, tRetN, tNext, rNe, rEq, tAug, tAsg, gName, ipI, tDrop, tIf, tFld, tM1, tTup, tLst, tSl, tPart, rSlS, rIxS, tCall, tMeth, tProp, tMake, gTup, gCons, gNil, tPar, rAppend, tyV, tThen, tNotN, tIsN, tNotV, tRg1, tLstRg, scal, flds_word, gSub, tBM, S_len, S_app, S_count, S_take, S_drop, S_cut, S_rep, lit_d, lit_o, lit_do, lit_od, lit_e, L2.start, wipe, and_assoc, tAndV, tOrV, tNoPart, Int.ofNat_inj, hp, T.cl, T.nW]
    refine ⟨_, q, rfl, hv, ho1, ho2, fun H1 e1 => .inl ⟨rfl, _, seqT_same e1 hs, rfl, _, _, rfl, _, _, rfl, _, _, rfl, rfl, fun t ht => ⟨⟨_, _, (e1.trans (same_new ht)) _ _ hp⟩, p, u, rfl, ⟨dx, (e1.trans (same_new ht)) _ _ hp⟩, hl, fun H2 v e2 hv => ?_⟩⟩⟩
    have e3 := (e1.trans (same_new ht)).trans e2
    have ht2 : H2 t = some (.tup [.int (q.1 : Int), .str "hollow"]) := e2 _ _ upd_same
    refine ⟨dCr (q.1, true), (creasesM u).map dCr, dp_tup ht2 (.cons (.int _) (.cons (.str _) .nil)), Dp.same hv nw_sub, dCr_ok _, shp_list (n := 1) (by decide) (fun x hx => ?_), ?_⟩
    · obtain ⟨c, _, rfl⟩ := List.mem_map.mp hx
      exact dCr_lay c
    have hany : (((creasesM u).map dCr).any fun z => z.eqv (dCr (q.1, true))) = true := List.any_eq_true.mpr ⟨dCr (q.1, true), List.mem_map.mpr ⟨_, hcr, rfl⟩, by simp [dCr, PyData.eqv, PyData.eqvAll]⟩
    rw [hany]
    refine .inl ⟨rfl, _, rfl, p, dx, _, rfl, e3 _ _ hp, p, u, rfl, ⟨dx, e3 _ _ hp⟩, hl, fun H3 v3 e4 hv3 => ?_⟩
    obtain ⟨a3, xs3, rfl, hs3, hd3⟩ := dp_tupI hv3
    obtain ⟨Pv, hPv⟩ : ∃ Pv : List PyData → L2.St → Hp → Prop, ∀ r σ H4, Pv r σ H4 ↔ ∃ (x y z : Option V), σ = [some (V.ref p), some (V.ref a), some (V.int ↑q.fst), some (V.int ↑q.snd.fst), some (V.int ↑q.snd.snd), x, y, z] ∧ Same H3 H4 ∧ ∃ rs : List (Bool × Nat × Nat), r = rs.map dRun ∧ ∀ c ∈ rs, ¬ (c.2.1 + c.2.2 = q.1 ∧ c.2.2 < q.2.1) ∧ ¬ (c.2.1 = q.1 ∧ c.2.2 < q.2.2) := ⟨_, fun _ _ _ => Iff.rfl⟩
    refine ⟨a3, rfl, ⟨_, seqT_same nw_sub hs3⟩, for_tupD (F := nw H2 H3) hs3 hd3 Pv (fun r σ H4 h => ?_) ((hPv _ _ _).mpr ⟨none, none, none, rfl, Same.refl _, runsM u, rfl, hall⟩) ?_ ?_⟩
    · obtain ⟨x, y, z, _, e, _⟩ := (hPv _ _ _).mp h
      exact nw_sub.trans e
    · intro d r v4 σ H4 hP hv4
      obtain ⟨x, y, z, rfl, e5, rs, hrs, hall⟩ := (hPv _ _ _).mp hP
      cases rs with
      | nil => cases hrs
      | cons c rs =>
        obtain ⟨rfl, rfl⟩ := List.cons.inj hrs
        obtain ⟨a4, xs4, rfl, hs4, hd4⟩ := dp_tupI hv4
        obtain ⟨hc1, hc2⟩ := hall c (by simp)
        cases hd4 with
        | cons i1 hd4 => cases hd4 with
          | cons i2 hd4 => cases hd4 with
            | cons i3 hd4 =>
              cases hd4
              cases dp_strI i1
              cases dp_intI i2
              cases dp_intI i3
              refine ⟨a4, _, rfl, seqT_same (nw_sub.trans e5) hs4, rfl, ?_⟩
              have done := fun x y z => (hPv (rs.map dRun) [some (V.ref p), some (V.ref a), some (V.int ↑q.fst), some (V.int ↑q.snd.fst), some (V.int ↑q.snd.snd), x, y, z] H4).mpr ⟨x, y, z, rfl, e5, rs, rfl, fun c hc => hall c (by simp [hc])⟩
              simp [tSeq, tIfS, tOr, tAnd, tNot, tB, tCB, tCons, tNil, tVar, tC, tTest, tChain, rI0, rI, tOp, tUn, rU, tRet, tRetN, tNext, rNe, rEq, tAug, tAsg, gName, ipI, tDrop, tIf, tFld, tM1, tTup, tLst, tSl, tPart, rSlS, rIxS, tCall, tMeth, tProp, tMake, gTup, gCons, gNil, tPar, rAppend, tyV, tThen, tNotN, tIsN, tNotV, tRg1, tLstRg, scal, flds_word, gSub, tBM, S_len, S_app, S_count, S_take, S_drop, S_cut, S_rep, lit_d, lit_o, lit_do, lit_od, lit_e, L2.start, wipe, and_assoc, tAndV, tOrV, tNoPart, Int.ofNat_inj, done]
              repeat' split
              all_goals first | exact done _ _ _ | (exfalso; omega) | (intros; exfalso; omega)
    · intro σ H4 hP
      obtain ⟨x, y, z, rfl, e5, rs, hrs, hall⟩ := (hPv _ _ _).mp hP
      have e6 := (e3.trans e4).trans e5
      have hno := flds_no u (m := "height") (by decide +kernel) (by decide +kernel)
      simp [tSeq, tIfS, tOr, tAnd, tNot, tB, tCB, tCons, tNil, tVar, tC, tTest, tChain, rI0, rI, tOp, tUn, rU, tRet, tRetN, tNext, rNe, rEq, tAug, tAsg, gName, ipI, tDrop, tIf, tFld, tM1, tTup, tLst, tSl, tPart, rSlS, rIxS, tCall, tMeth, tProp, tMake, gTup, gCons, gNil, tPar, rAppend, tyV, tThen, tNotN, tIsN, tNotV, tRg1, tLstRg, scal, flds_word, gSub, tBM, S_len, S_app, S_count, S_take, S_drop, S_cut, S_rep, lit_d, lit_o, lit_do, lit_od, lit_e, L2.start, wipe, and_assoc, tAndV, tOrV, tNoPart, Int.ofNat_inj, T.cl]
      refine ⟨_, _, e6 _ _ hp, by simpa using hno, p, u, q.1, rfl, ⟨dx, e6 _ _ hp⟩, hl, by omega, fun H5 e7 => ?_⟩
      simp
      rw [if_neg ?_]
      · exact k _ (e6.trans e7)
      · omega
/-! ### pulled_column -/
theorem _root_.L2.Fun.star {x qual : Str} {st : Stmt} {f : Addr} {fd : FuncData} {N ps : List Str} {pv : Str} {k : Nat} {sp : Sp} (F : L2.Fun K x qual st f fd) (S : FnScope N (ps ++ [pv]) (defScope st))
    (hb : ∀ (kV doc pm : Value) (an : Option Addr) (cdv ct : Value) (us rest : List Value), us.length = ps.length → bindArgs (PySem.W.fnOf x qual (defArgs st) (defBody st) (defScope st) .none kV doc pm an cdv ct) ⟨us ++ rest, []⟩ = (newTuple rest >>= fun t => pure (ps.zip us ++ [(pv, t)])))
    (hbody : ∀ (cdv : Value) (A : Around) (outer : List Env) (s : Shared) (H : Hp) (vs : List V) (Q : VK) (E : XK), Room k (A.deeper (envOfC qual (defScope st) s.heap.objs.size f cdv)) → sp vs H Q E →
      ∃ t, PSs (cxOf CX0 P w K mg base N qual (defScope st) f cdv A outer s H E).nox (defBody st) t ∧ t { nx := fun _ H' => Q .non H', rt := Q } (L2.start N vs) H) :
    FnR P w K mg base CX0 (k + 1) f (fun vs H Q E => ∃ ws rest, vs = ws ++ rest ∧ ws.length = ps.length ∧ rest.length ≤ sizeLine ∧ ∀ p, H p = Option.none → sp (ws ++ [V.ref p]) (upd H p (.tup rest)) Q E) := by
  obtain ⟨oc, od, kV, doc, pm, an, cdv, ct, osl, rfl, lk, hcd⟩ := F.ex
  refine StX.fn_star lk hcd S StX.cxUp_none (hb kV doc pm an cdv ct) fun A outer s H vs Q E hr hsp => ?_
  obtain ⟨t, h, q⟩ := hbody cdv A outer s H vs Q E hr hsp
  exact ⟨t, h.nox, q⟩
/-- x(e, ..), x a def of the module by a positional promise -/
theorem pe_callR {X : Cx} {CX : CXT} {k : Nat} {f : Addr} {sp : Sp} {E : XK} {x : Str} {e : Expr} {es : List Expr} {t : TA} {p pos : Pos} (F : FnR X.prog X.w X.K X.mg X.base CX k f sp) (hr : Room k X.A) (hk : PySem.W.keepIn X.K (.ref f) = true) (hg : Gl X x) (hm : X.mg x = some (.ref f)) (hx : Passes CX X E) (ha : PA X (e :: es) t) (hd : (x == ("__debug__" : Str)) = false := by decide)
    (he : starEach (e :: es) X.env = (false, eval e X.env) :: starEach es X.env := by rfl) (hpl : (backTo pos (starEach es X.env)).any (·.1) = false := by rfl) :
    PE X (.Call (.Name x p) (e :: es) [] pos) (fun σ H Q => t σ H fun vs H1 => sp vs H1 Q E) := by
  refine ⟨fun pins s σ H Q I h => ?_⟩
  refine wpAny_Call_Name_kw (ld_glob I hg hm ?_ hd)
  refine PySem.W.callWith_K (h₀ := X.base) I.ok.mod.kin hk (thn (ha.run pos pins s σ H _ I h) fun us s1 ⟨vs, H1, I1, r, q⟩ => ⟨I1.kIn, ?_⟩) he hpl
  exact wpAny_call (run_fnR F hr hx I1 r q)
def ClR (P : Program) (w : World) (K : PySem.W.Frag) (mg : Str → Option Value) (base : Heap) (k : Nat) (x : Str) (sp : Sp) : Prop := ∃ f, FnR P w K mg base CX0 k f sp ∧ mg x = some (.ref f) ∧ PySem.W.keepIn K (.ref f) = true
def spPulled (K : PySem.W.Frag) (C : Addr) : Sp := fun vs H Q _ => ∃ (p : Addr) (u : Wd) (v : V) (q : Pull), vs = [.ref p, v] ∧ ColAt C H p u ∧ u.length ≤ 12 ∧ Dp K H v (dPull q) ∧ pullOk u q = true ∧ okW (pulledM u q) = true ∧ ∀ H' p', Same H H' → ColAt C H' p' (pulledM u q) → Q (.ref p') H'
theorem cl_pulled (T : Txt K mg C) (cpt : Cl P w K mg base 4 "pull_trouble" ["column", "pull"] (spPT K C)) {f_i : Addr} {fd_i : FuncData} (m_init : Mk K C f_i) (F_init : FnOk P w K mg base CX0 2 f_i fd_i ["self", "word"] (spInit C)) (b_init : Binds K fd_i ["self", "word"] [])
    {f : Addr} {fd : FuncData} (F : Fun K "pulled_column" "pulled_column" s_pulled_column f fd) (hmg : mg "pulled_column" = some (.ref f)) : ClR P w K mg base 5 "pulled_column" (spPulled K C) := by
  obtain ⟨f_pull_trouble, fd_pull_trouble, F_pull_trouble, g_pull_trouble, k_pull_trouble, b_pull_trouble⟩ := cpt
  refine ⟨f, FnR.imp (F.star (ps := ["column"]) (pv := "pulls") (k := 4) (sp := fun vs H Q _ => ∃ (p t : Addr) (u : Wd) (v : V) (q : Pull), vs = [.ref p, .ref t] ∧ H t = some (.tup [v]) ∧ ColAt C H p u ∧ u.length ≤ 12 ∧ Dp K H v (dPull q) ∧ pullOk u q = true ∧ okW (pulledM u q) = true ∧ ∀ H' p', Same H H' → ColAt C H' p' (pulledM u q) → Q (.ref p') H') sc_pulled_column (fun kV doc pm an cdv ct => StX.bind_star1 (B := fun us => bindArgs (PySem.W.fnOf "pulled_column" "pulled_column" (defArgs s_pulled_column) (defBody s_pulled_column) (defScope s_pulled_column) .none kV doc pm an cdv ct) ⟨us, []⟩) (fun _ => rfl) (fun _ _ _ => rfl)) ?_) ?_, hmg, F.kp⟩
  · intro cdv A outer s H vs Q E hr h
    obtain ⟨p, t, u, v, q, rfl, ht, hp, hl, hv, hok, hok2, k⟩ := h
    refine ⟨_, (pss_cons (ps_set (i := 2) sc_pulled_column.nd rfl (.inl rfl) (pv 0))
      (pss_cons (ps_for PassesOwn.never rfl (K12R.pi_enumT (by rfl) T.enumerate_ (pa_cons (pv 1) pa_nil)) (pg_tup (n := 2) rfl (pgs_cons (pg_name (i := 3) sc_pulled_column.nd rfl (.inl rfl)) (pgs_cons (pg_name (i := 4) sc_pulled_column.nd rfl (.inl rfl)) pgs_nil))) (pss_cons (ps_set (i := 5) sc_pulled_column.nd rfl (.inl rfl) (pe_call F_pull_trouble (hr.mono (by decide)) (by rfl) g_pull_trouble k_pull_trouble b_pull_trouble .nil pass0 (pa_cons (pv 2) (pa_cons (pv 4) pa_nil))))
      (pss_cons (ps_if (pt_cmpR op_notN (pv 5) pe_non (nomark _)) (pss_one ps_never) pss_nil)
      (pss_cons (ps_asg (pv 4) (pg_tup (n := 3) rfl (pgs_cons (pg_name (i := 6) sc_pulled_column.nd rfl (.inl rfl)) (pgs_cons (pg_name (i := 7) sc_pulled_column.nd rfl (.inl rfl)) (pgs_cons (pg_name (i := 8) sc_pulled_column.nd rfl (.inl rfl)) pgs_nil)))))
      (pss_cons (ps_set (i := 9) sc_pulled_column.nd rfl (.inl rfl) (pe_op op_add_str (pe_op K12R.op_mulS pe_str (pv 8)) (pe_op K12R.op_mulS pe_str (pv 7))))
      (pss_one (ps_set (i := 2) sc_pulled_column.nd rfl (.inl rfl) (pe_make m_init F_init (hr.mono (by decide)) (by rfl) T.mgC b_init .nil pass0 (pa_cons (pe_op op_add_str (pe_op op_add_str (pe_slice sl_str (pe_fld (pv 2) rfl) po_none (po_some (pe_op op_sub (pv 6) (pv 7)))) (pv 9)) (pe_slice sl_str (pe_fld (pv 2) rfl) (po_some (pe_op op_add (pv 6) (pv 8))) po_none)) pa_nil)))))))))
      (pss_one (ps_ret (pe_make m_init F_init (hr.mono (by decide)) (by rfl) T.mgC b_init .nil pass0 (pa_cons (pe_fld (pv 2) rfl) pa_nil)))))), ?_⟩
    simp [tSeq, tIfS, tOr, tAnd, tNot, tB, tCB, tCons, tNil, tVar, tC, tTest, tChain, rI0, rI, tOp, tUn, rU, tRet, tRetN, tNext, rNe, rEq, tAug, tAsg, gName, ipI, tDrop, tIf, tFld, tM1, tTup, tLst, tSl, tPart, rSlS, rIxS, tCall, tMeth, tProp, tMake, gTup, gCons, gNil, tPar, rAppend, tyV, tThen, tNotN, tIsN, tNotV, tRg1, tLstRg, scal, flds_word, gSub, tBM, S_len, S_app, S_count, S_take, S_drop, S_cut, S_rep, lit_d, lit_o, lit_do, lit_od, lit_e, L2.start, wipe, and_assoc, tAndV, tOrV, tNoPart, Int.ofNat_inj]
    obtain ⟨a, xs, rfl, hs, hd⟩ := dp_tupI hv
    have := ints_dpA [(q.1 : Int), (q.2.1 : Int), (q.2.2 : Int)] hd
    subst this
    have ho : 1 ≤ q.2.1 ∧ 1 ≤ q.2.2 ∧ q.2.1 ≤ q.1 ∧ q.1 ≤ u.length ∧ q.2.2 ≤ 1000 := by
      have := hok
      unfold pullOk at this
      simp [Nat.ble_eq] at this
      obtain ⟨_, hh, h1, h2, h3, h4⟩ := this
      have hb := (okW_len hok2).2
      simp [pulledM, made] at hb
      exact ⟨h1, h2, h3, h4, by omega⟩
    obtain ⟨Pe, hPe⟩ : ∃ Pe : L2.St → Hp → Prop, ∀ σ H1, Pe σ H1 ↔ ∃ (p' : Addr) (x3 x4 x5 x6 x7 x8 x9 : Option V), σ = [some (.ref p), some (.ref t), some (.ref p'), x3, x4, x5, x6, x7, x8, x9] ∧ Same H H1 ∧ ColAt C H1 p' (pulledM u q) := ⟨_, fun _ _ => Iff.rfl⟩
    refine ⟨_, rfl, t, _, rfl, sqT_of ht, fun i m σ H1 => m = 1 - i ∧ ((i = 0 ∧ σ = [some (V.ref p), some (V.ref t), some (V.ref p), none, none, none, none, none, none, none] ∧ H1 = H) ∨ (i = 1 ∧ Pe σ H1)), ⟨1, rfl, .inl ⟨rfl, rfl, rfl⟩⟩, ?_⟩
    rintro i m σ H1 ⟨rfl, ⟨rfl, rfl, rfl⟩ | ⟨rfl, hP⟩⟩
    · refine .inr ⟨⟨_, _, sqT_of ht, rfl⟩, Pe, fun σ' H' h => ⟨0, by decide, rfl, .inr ⟨rfl, h⟩⟩, ?_⟩
      rintro x H' ⟨T', x', rfl, hT, rfl, hx⟩
      cases hx _ (sqT_of ht)
      have e1 := same_new (o := HO.tup [V.int ((0 : Nat) : Int), V.ref a]) hT
      refine ⟨T', _, rfl, sqT_of upd_same, rfl, _, _, rfl, _, _, rfl, rfl, ?_⟩
      simp [tSeq, tIfS, tOr, tAnd, tNot, tB, tCB, tCons, tNil, tVar, tC, tTest, tChain, rI0, rI, tOp, tUn, rU, tRet, tRetN, tNext, rNe, rEq, tAug, tAsg, gName, ipI, tDrop, tIf, tFld, tM1, tTup, tLst, tSl, tPart, rSlS, rIxS, tCall, tMeth, tProp, tMake, gTup, gCons, gNil, tPar, rAppend, tyV, tThen, tNotN, tIsN, tNotV, tRg1, tLstRg, scal, flds_word, gSub, tBM, S_len, S_app, S_count, S_take, S_drop, S_cut, S_rep, lit_d, lit_o, lit_do, lit_od, lit_e, L2.start, wipe, and_assoc, tAndV, tOrV, tNoPart, Int.ofNat_inj, T.cl, T.nW]
      refine ⟨p, u, _, q, rfl, hp.same e1, hl, Dp.same hv e1, hok, fun H2 e2 => ?_⟩
      obtain ⟨dx, hp2⟩ := (hp.same e1).same e2
      obtain ⟨lo, hlo⟩ : ∃ lo, lo = q.1 - q.2.1 := ⟨_, rfl⟩
      obtain ⟨hi, hhi⟩ : ∃ hi, hi = q.1 + q.2.2 := ⟨_, rfl⟩
      have es : (q.1 : Int) - q.2.1 = (lo : Int) := by omega
      have es2 : (q.1 : Int) + q.2.2 = (hi : Int) := by omega
      refine .inl ⟨rfl, _, seqT_same (e1.trans e2) hs, rfl, _, _, rfl, _, _, rfl, _, _, rfl, rfl, ?_⟩
      have hp3 : H2 p = _ := hp2
      simp [tSeq, tIfS, tOr, tAnd, tNot, tB, tCB, tCons, tNil, tVar, tC, tTest, tChain, rI0, rI, tOp, tUn, rU, tRet, tRetN, tNext, rNe, rEq, tAug, tAsg, gName, ipI, tDrop, tIf, tFld, tM1, tTup, tLst, tSl, tPart, rSlS, rIxS, tCall, tMeth, tProp, tMake, gTup, gCons, gNil, tPar, rAppend, tyV, tThen, tNotN, tIsN, tNotV, tRg1, tLstRg, scal, flds_word, gSub, tBM, S_len, S_app, S_count, S_take, S_drop, S_cut, S_rep, lit_d, lit_o, lit_do, lit_od, lit_e, L2.start, wipe, and_assoc, tAndV, tOrV, tNoPart, Int.ofNat_inj, T.cl, T.nW, hp3, es, es2]
      have hl2 := (okW_len hok2).2
      simp [pulledM, made] at hl2
      refine ⟨by omega, by omega, small (by omega), small (by omega), small (by omega), small (by omega), small (by omega), ?_⟩
      have hm : List.take lo u ++ (List.replicate q.snd.snd false ++ (List.replicate q.snd.fst true ++ List.drop hi u)) = pulledM u q := by
        rw [hlo, hhi]
        simp [pulledM, made]
      rw [hm]
      exact mk_col hok2 fun H' x e3 hc _ => (hPe _ _).mpr ⟨x, _, _, _, _, _, _, _, rfl, (e1.trans e2).trans e3, hc⟩
    · obtain ⟨p', x3, x4, x5, x6, x7, x8, x9, rfl, e1, dx, hp'⟩ := (hPe _ _).mp hP
      refine .inl ⟨⟨[V.ref a], sqT_of (e1 _ _ ht), rfl⟩, ?_⟩
      simp [tSeq, tIfS, tOr, tAnd, tNot, tB, tCB, tCons, tNil, tVar, tC, tTest, tChain, rI0, rI, tOp, tUn, rU, tRet, tRetN, tNext, rNe, rEq, tAug, tAsg, gName, ipI, tDrop, tIf, tFld, tM1, tTup, tLst, tSl, tPart, rSlS, rIxS, tCall, tMeth, tProp, tMake, gTup, gCons, gNil, tPar, rAppend, tyV, tThen, tNotN, tIsN, tNotV, tRg1, tLstRg, scal, flds_word, gSub, tBM, S_len, S_app, S_count, S_take, S_drop, S_cut, S_rep, lit_d, lit_o, lit_do, lit_od, lit_e, L2.start, wipe, and_assoc, tAndV, tOrV, tNoPart, Int.ofNat_inj, T.cl, T.nW, hp']
      exact mk_col hok2 fun H' x e2 hc _ => k H' x (e1.trans e2) hc
  · rintro vs H Q E ⟨p, u, v, q, rfl, hp, hl, hv, hok, hok2, k⟩
    exact ⟨[.ref p], [v], rfl, rfl, line1, fun t ht => ⟨p, t, u, v, q, rfl, upd_same, hp.same (same_new ht), hl, Dp.same hv (same_new ht), hok, hok2, fun H' p' e h => k H' p' ((same_new ht).trans e) h⟩⟩
end
end K12
set_option Elab.async false
set_option linter.all false
set_option maxRecDepth 100000
set_option maxHeartbeats 4000000
namespace K12
open PySem PySem.Spec PyProof.Rows L2 K12M
abbrev s_undone : Stmt := top 15
theorem sc_undone : FnScope ["word", "ridge", "runs", "outs", "first", "downs", "rest"] ["word", "ridge"] (defScope s_undone) := ⟨rfl, rfl, rfl, by decide +kernel, rfl, by decide +kernel, by decide +kernel⟩
abbrev s_row_of : Stmt := top 16
theorem sc_row_of : FnScope ["column", "order", "word", "left", "pulls", "ridge", "pull"] ["column", "order"] (defScope s_row_of) := ⟨rfl, rfl, rfl, by decide +kernel, rfl, by decide +kernel, by decide +kernel⟩
abbrev s_fewest_pulls : Stmt := top 18
theorem sc_fewest_pulls : FnScope ["column"] ["column"] (defScope s_fewest_pulls) := ⟨rfl, rfl, rfl, by decide +kernel, rfl, by decide +kernel, by decide +kernel⟩
abbrev s_how_many_fewest : Stmt := top 20
theorem sc_how_many_fewest : FnScope ["column", "total", "k"] ["column"] (defScope s_how_many_fewest) := ⟨rfl, rfl, rfl, by decide +kernel, rfl, by decide +kernel, by decide +kernel⟩
section
variable {P : Program} {w : World} {K : PySem.W.Frag} {mg : Str → Option Value} {base : Heap} {C : Addr}
/-! ### undone -/
theorem runsGo_le (u : Wd) : ∀ (n t f : Nat), f ≤ t → t + n ≤ u.length + 1 → ∀ c ∈ runsGo u n t f, c.2.1 + c.2.2 ≤ u.length
  | 0, _, _, _, _, c, h => by simp [runsGo] at h
  | n + 1, t, f, h1, h2, c, h => by
    unfold runsGo at h
    split at h
    · rcases List.mem_cons.mp h with h | h
      · subst h
        simp
        omega
      · exact runsGo_le u n (t + 1) t (by omega) (by omega) c h
    · exact runsGo_le u n (t + 1) f (by omega) (by omega) c h
theorem runs_le (u : Wd) : ∀ c ∈ runsM u, c.2.1 + c.2.2 ≤ u.length := runsGo_le u u.length 1 0 (by omega) (by omega)
def dUn (x : Wd × Pull) : PyData := .tuple [.str (S x.1), dPull x.2]
def spUndone (K : PySem.W.Frag) : Sp := fun vs H Q _ => ∃ (u : Wd) (r : Nat) (x : Wd × Pull), vs = [.str (S u), .int (r : Int)] ∧ okW u = true ∧ undoneM u r = some x ∧ ∀ H' v, Same H H' → Dp K (nw H H') v (dUn x) → Q v H'
theorem cl_undone (T : Txt K mg C) (cru : ClP P w K mg base 1 C "runs" (spGet K C dRuns)) {f_i : Addr} {fd_i : FuncData} (m_init : Mk K C f_i) (F_init : FnOk P w K mg base CX0 2 f_i fd_i ["self", "word"] (spInit C)) (b_init : Binds K fd_i ["self", "word"] [])
    (D : Df K mg "undone" s_undone ["word", "ridge"]) : Cl P w K mg base 4 "undone" ["word", "ridge"] (spUndone K) := by
  obtain ⟨_, g_runs, fd_runs, p_runs, F_runs, b_runs⟩ := cru
  refine D.cl fun f fd F => F.ok sc_undone (fun vs H Q E h => ?_) (fun cdv A outer s H vs Q E hr h => ?_)
  · obtain ⟨u, r, x, rfl, _⟩ := h
    rfl
  · obtain ⟨u, r, x, rfl, hok, hx, k⟩ := h
    obtain ⟨h2, h12⟩ := okW_len hok
    unfold undoneM at hx
    split at hx
    · rename_i b1 first outs b2 f2 downs g1 g2
      have hb1 := runs_le u _ (List.mem_of_getElem? g1)
      have hb2 := runs_le u _ (List.mem_of_getElem? g2)
      simp at hb1 hb2
      injection hx with hx
      refine ⟨_, (pss_cons (ps_set (i := 2) sc_undone.nd rfl (.inl rfl) (pe_prop (pe_make m_init F_init (hr.mono (by decide)) (by rfl) T.mgC b_init .nil pass0 (pa_cons (pv 0) pa_nil)) T.cl p_runs F_runs (hr.mono (by decide)) b_runs .nil pass0 rfl))
      (pss_cons (ps_par (i := 3) (j := 4) (by rfl) sc_undone.nd rfl rfl (by decide) rfl rfl (pa_cons (pe_ix ix_tup (pe_ix ix_tup (pv 2) (pe_op op_add (pe_op op_mul pe_int (pv 1)) pe_int) (fun _ _ => rfl)) pe_int (fun _ _ => rfl)) (pa_cons (pe_ix ix_tup (pe_ix ix_tup (pv 2) (pe_op op_add (pe_op op_mul pe_int (pv 1)) pe_int) (fun _ _ => rfl)) pe_int (fun _ _ => rfl)) pa_nil)) (by rfl))
      (pss_cons (ps_set (i := 5) sc_undone.nd rfl (.inl rfl) (pe_ix ix_tup (pe_ix ix_tup (pv 2) (pe_op op_add (pe_op op_mul pe_int (pv 1)) pe_int) (fun _ _ => rfl)) pe_int (fun _ _ => rfl)))
      (pss_cons (ps_set (i := 6) sc_undone.nd rfl (.inl rfl) (pe_slice sl_str (pv 0) (po_some (pe_op op_add (pe_op op_add (pv 4) (pv 3)) (pv 5))) po_none))
      (pss_one (ps_ret (pe_tup (pa_cons (pe_op op_add_str (pe_op op_add_str (pe_op op_add_str (pe_slice sl_str (pv 0) po_none (po_some (pv 4))) (pe_op K12R.op_mulS pe_str (pv 5))) (pe_op K12R.op_mulS pe_str (pv 3))) (pv 6)) (pa_cons (pe_tup (pa_cons (pe_op op_add (pv 4) (pv 5)) (pa_cons (pv 5) (pa_cons (pv 3) pa_nil)))) pa_nil))))))))), ?_⟩
      simp [tSeq, tIfS, tOr, tAnd, tNot, tB, tCB, tCons, tNil, tVar, tC, tTest, tChain, rI0, rI, tOp, tUn, rU, tRet, tRetN, tNext, rNe, rEq, tAug, tAsg, gName, ipI, tDrop, tIf, tFld, tM1, tTup, tLst, tSl, tPart, rSlS, rIxS, tCall, tMeth, tProp, tMake, gTup, gCons, gNil, tPar, rAppend, tyV, tThen, tNotN, tIsN, tNotV, tRg1, tLstRg, scal, flds_word, gSub, tBM, S_len, S_app, S_count, S_take, S_drop, S_cut, S_rep, lit_d, lit_o, lit_do, lit_od, lit_e, L2.start, wipe, and_assoc, tAndV, tOrV, tNoPart, Int.ofNat_inj]
      refine mk_col hok fun H1 p e1 hp _ => ?_
      obtain ⟨dx, hp⟩ := hp
      refine ⟨⟨_, _, hp⟩, p, u, rfl, ⟨dx, hp⟩, h12, fun H2 v e2 hv => ?_⟩
      obtain ⟨a, xs, rfl, hs, hd⟩ := dp_tupI hv
      obtain ⟨v1, i1, hv1⟩ := dpA_get (d := dRun (b1, first, outs)) hd (by rw [List.getElem?_map, g1]; rfl)
      obtain ⟨v2, i2, hv2⟩ := dpA_get (d := dRun (b2, f2, downs)) hd (by rw [List.getElem?_map, g2]; rfl)
      obtain ⟨a1, xs1, rfl, hs1, hd1⟩ := dp_tupI hv1
      obtain ⟨a2, xs2, rfl, hs2, hd2⟩ := dp_tupI hv2
      have t : Same (nw H1 H2) H2 := nw_sub
      have j1 : atI xs (2 * (r : Int) + 1) = some (.ref a1) := by
        have := at_lt i1
        rw [show ((2 * r + 1 : Nat) : Int) = 2 * (r : Int) + 1 from by omega] at this
        exact this
      have j2 : atI xs (2 * (r : Int) + 2) = some (.ref a2) := by
        have := at_lt i2
        rw [show ((2 * r + 2 : Nat) : Int) = 2 * (r : Int) + 2 from by omega] at this
        exact this
      obtain ⟨y1, k1, hy1⟩ := dpA_get (i := 1) hd1 rfl
      obtain ⟨y2, k2, hy2⟩ := dpA_get (i := 2) hd1 rfl
      obtain ⟨y3, k3, hy3⟩ := dpA_get (i := 2) hd2 rfl
      cases dp_intI hy1
      cases dp_intI hy2
      cases dp_intI hy3
      refine rIxT_i (seqT_same t hs) j1 (rIxT_i (seqT_same t hs1) (at_lt k2) (rIxT_i (seqT_same t hs) j1 (rIxT_i (seqT_same t hs1) (at_lt k1) (rIxT_i (seqT_same t hs) j2 (rIxT_i (seqT_same t hs2) (at_lt k3) ?_)))))
      obtain ⟨hi, hhi⟩ : ∃ hi, hi = first + outs + downs := ⟨_, rfl⟩
      have es : (first : Int) + outs + downs = (hi : Int) := by omega
      simp [tSeq, tIfS, tOr, tAnd, tNot, tB, tCB, tCons, tNil, tVar, tC, tTest, tChain, rI0, rI, tOp, tUn, rU, tRet, tRetN, tNext, rNe, rEq, tAug, tAsg, gName, ipI, tDrop, tIf, tFld, tM1, tTup, tLst, tSl, tPart, rSlS, rIxS, tCall, tMeth, tProp, tMake, gTup, gCons, gNil, tPar, rAppend, tyV, tThen, tNotN, tIsN, tNotV, tRg1, tLstRg, scal, flds_word, gSub, tBM, S_len, S_app, S_count, S_take, S_drop, S_cut, S_rep, lit_d, lit_o, lit_do, lit_od, lit_e, L2.start, wipe, and_assoc, tAndV, tOrV, tNoPart, Int.ofNat_inj, es]
      have z1 : ∀ {n : Nat}, n ≤ 100 → n ≤ sizeLine := fun h => small (by omega)
      and_intros
      all_goals first | omega | exact z1 (by omega) | skip
      intro p1 hp1 p2 hp2
      have hp3 : H2 p2 = none := by
        unfold upd at hp2
        split at hp2
        · cases hp2
        · exact hp2
      have ne : p1 ≠ p2 := fun e => by
        subst e
        rw [upd_same] at hp2
        cases hp2
      have e3 := (e1.trans e2).trans (same_new (o := HO.tup [V.int ((first : Int) + downs), V.int downs, V.int outs]) hp1)
      have n1 : H p1 = none := by
        cases q : H p1 with
        | none => rfl
        | some o => rw [(e1.trans e2) _ _ q] at hp1; cases hp1
      have n2 : H p2 = none := by
        cases q : H p2 with
        | none => rfl
        | some o => rw [(e1.trans e2) _ _ q] at hp3; cases hp3
      refine k _ _ (e3.trans (same_new hp2)) ?_
      rw [← hx]
      refine dp_tup (by rw [nw_at n2, upd_same]) (.cons ?_ (.cons ?_ .nil))
      · rw [show List.take first u ++ (List.replicate downs true ++ (List.replicate outs false ++ List.drop hi u)) = made u first (List.replicate downs true ++ List.replicate outs false) (first + outs + downs) from by rw [← hhi]; simp [made]]
        exact .str _
      · refine dp_tup (by rw [nw_at n1, upd_ne ne, upd_same]) (.cons ?_ (.cons (.int _) (.cons (.int _) .nil)))
        rw [show (first : Int) + downs = ((first + downs : Nat) : Int) from by omega]
        exact .int _
    · cases hx
/-! ### row_of -/
def dRow (x : List Pull) : PyData := .tuple (x.map dPull)
def nints (ns : List Nat) : List Int := ns.map Int.ofNat
def spRow (K : PySem.W.Frag) (C : Addr) : Sp := fun vs H Q _ => ∃ (p a : Addr) (u : Wd) (ns : List Nat) (row : List Pull), vs = [.ref p, .ref a] ∧ ColAt C H p u ∧ u.length ≤ 12 ∧ (SqL K H a ((nints ns).map V.int) ∨ SqT K H a ((nints ns).map V.int)) ∧ ns.length ≤ 12 ∧ ns.Perm (List.range ns.length) ∧ rowM u ns.length ns = some row ∧ ∀ H' v, Same H H' → Dp K (nw H H') v (dRow row) → Q v H'
theorem idx_spec : ∀ (l : List Nat) (r : Nat), l.contains r = true → l[l.idxOf r]? = some r ∧ ∀ m, m < l.idxOf r → l[m]? ≠ some r
  | [], r, h => by simp at h
  | x :: l, r, h => by
    by_cases e : x = r
    · subst e
      simp [List.idxOf_cons]
    · have h' : l.contains r = true := by
        simp at h ⊢
        rcases h with h | h
        · exact absurd h.symm e
        · exact h
      obtain ⟨h1, h2⟩ := idx_spec l r h'
      have hb : (x == r) = false := by simpa using e
      rw [List.idxOf_cons, hb]
      refine ⟨by simpa using h1, fun m hm => ?_⟩
      cases m with
      | zero => simpa using e
      | succ m =>
        have : m < l.idxOf r := by simpa using hm
        simpa using h2 m this
theorem nints_get {l : List Nat} {i r : Nat} (h : l[i]? = some r) : (nints l)[i]? = some (r : Int) := by
  unfold nints
  rw [List.getElem?_map, h]
  rfl
theorem nints_ne {l : List Nat} {i r : Nat} (h : l[i]? ≠ some r) : (nints l)[i]? ≠ some (r : Int) := by
  unfold nints
  rw [List.getElem?_map]
  cases e : l[i]? with
  | none => simp
  | some x =>
    rw [e] at h
    intro q
    simp at q
    exact h (by rw [show x = r from by omega])
theorem nints_er {l : List Nat} {j : Nat} : (nints l).eraseIdx j = nints (l.eraseIdx j) := by
  unfold nints
  induction l generalizing j with
  | nil => simp
  | cons x l ih => cases j with
    | zero => simp
    | succ j => simp [ih]
theorem for_revL {g : TG} {tb : TS} {D : Ends} {σ : L2.St} {H F : Hp} {a : Addr} {xs : List V} (hq : SqL K F a xs) (Pv : List V → L2.St → Hp → Prop) (hF : ∀ r σ H, Pv r σ H → Same F H) (h0 : Pv xs.reverse σ H)
    (hs : ∀ v r σ H, Pv (v :: r) σ H → g v σ H fun σ2 H2 => tb { D with nx := Pv r, ct := Pv r, bk := D.nx } σ2 H2) (he : ∀ σ H, Pv [] σ H → D.nx σ H) :
    ∃ W : Nat → Nat → L2.St → Hp → Prop, (∃ m, W 0 m σ H) ∧ ∀ i m σ H, W i m σ H →
      ((Itv K a xs.length).stop i H ∧ D.nx σ H) ∨ ((Itv K a xs.length).go i H ∧ ∃ N : L2.St → Hp → Prop, (∀ σ' H', N σ' H' → ∃ m', m' < m ∧ W (i + 1) m' σ' H') ∧ ∀ x H', (Itv K a xs.length).yld i H x H' → g x σ H' fun σ2 H2 => tb { D with nx := N, ct := N, bk := D.nx } σ2 H2) := by
  refine ⟨fun i m σ H => m = xs.length - i ∧ i ≤ xs.length ∧ Pv (xs.reverse.drop i) σ H, ⟨xs.length, by simp, Nat.zero_le _, h0⟩, ?_⟩
  rintro i m σ H ⟨rfl, hi, p⟩
  have hz := (hF _ _ _ p).seq hq
  by_cases hlt : i < xs.length
  · have e1 : xs[xs.length - 1 - i]? = some xs[xs.length - 1 - i] := List.getElem?_eq_getElem (by omega)
    have e2 : xs.reverse[i]? = some xs[xs.length - 1 - i] := by rw [List.getElem?_reverse hlt, e1]
    rw [drop_at e2] at p
    refine .inr ⟨⟨hlt, xs, _, hz, e1⟩, fun σ' H' => Pv (xs.reverse.drop (i + 1)) σ' H', fun σ' H' p' => ⟨xs.length - (i + 1), by omega, rfl, hlt, p'⟩, ?_⟩
    rintro x H' ⟨rfl, y⟩
    have e3 := y xs hz
    rw [e1] at e3
    cases e3
    exact hs _ _ σ _ p
  · have e : i = xs.length := by omega
    subst e
    rw [List.drop_of_length_le (by rw [List.length_reverse]; exact Nat.le_refl _)] at p
    exact .inl ⟨Nat.le_refl _, he σ H p⟩
theorem for_revT {g : TG} {tb : TS} {D : Ends} {σ : L2.St} {H F : Hp} {a : Addr} {xs : List V} (hq : SqT K F a xs) (Pv : List V → L2.St → Hp → Prop) (hF : ∀ r σ H, Pv r σ H → Same F H) (h0 : Pv xs.reverse σ H)
    (hs : ∀ v r σ H, Pv (v :: r) σ H → g v σ H fun σ2 H2 => tb { D with nx := Pv r, ct := Pv r, bk := D.nx } σ2 H2) (he : ∀ σ H, Pv [] σ H → D.nx σ H) :
    ∃ W : Nat → Nat → L2.St → Hp → Prop, (∃ m, W 0 m σ H) ∧ ∀ i m σ H, W i m σ H →
      ((RT.ItvT K a xs.length).stop i H ∧ D.nx σ H) ∨ ((RT.ItvT K a xs.length).go i H ∧ ∃ N : L2.St → Hp → Prop, (∀ σ' H', N σ' H' → ∃ m', m' < m ∧ W (i + 1) m' σ' H') ∧ ∀ x H', (RT.ItvT K a xs.length).yld i H x H' → g x σ H' fun σ2 H2 => tb { D with nx := N, ct := N, bk := D.nx } σ2 H2) := by
  refine ⟨fun i m σ H => m = xs.length - i ∧ i ≤ xs.length ∧ Pv (xs.reverse.drop i) σ H, ⟨xs.length, by simp, Nat.zero_le _, h0⟩, ?_⟩
  rintro i m σ H ⟨rfl, hi, p⟩
  have hz := seqT_same (hF _ _ _ p) hq
  by_cases hlt : i < xs.length
  · have e1 : xs[xs.length - 1 - i]? = some xs[xs.length - 1 - i] := List.getElem?_eq_getElem (by omega)
    have e2 : xs.reverse[i]? = some xs[xs.length - 1 - i] := by rw [List.getElem?_reverse hlt, e1]
    rw [drop_at e2] at p
    refine .inr ⟨⟨hlt, xs, _, hz, e1⟩, fun σ' H' => Pv (xs.reverse.drop (i + 1)) σ' H', fun σ' H' p' => ⟨xs.length - (i + 1), by omega, rfl, hlt, p'⟩, ?_⟩
    rintro x H' ⟨rfl, y⟩
    have e3 := y xs hz
    rw [e1] at e3
    cases e3
    exact hs _ _ σ _ p
  · have e : i = xs.length := by omega
    subst e
    rw [List.drop_of_length_le (by rw [List.length_reverse]; exact Nat.le_refl _)] at p
    exact .inl ⟨Nat.le_refl _, he σ H p⟩
theorem sorted_range {ns' : List Int} {ns : List Nat} (h1 : ns'.Perm (nints ns)) (h2 : ns'.Pairwise (· ≤ ·)) (h3 : ns.Perm (List.range ns.length)) : ns' = nints (List.range ns.length) := by
  have h4 : ns'.Perm (nints (List.range ns.length)) := h1.trans (h3.map _)
  refine List.Perm.eq_of_pairwise (le := fun a b : Int => a ≤ b) (fun a b _ _ h h' => by omega) h2 ?_ h4
  unfold nints
  rw [List.pairwise_map]
  exact List.pairwise_lt_range.imp fun h => by
    simp
    omega
theorem cl_row (T : Txt K mg C) (cun : Cl P w K mg base 4 "undone" ["word", "ridge"] (spUndone K))
    (D : Df K mg "row_of" s_row_of ["column", "order"]) : Cl P w K mg base 5 "row_of" ["column", "order"] (spRow K C) := by
  obtain ⟨f_undone, fd_undone, F_undone, g_undone, k_undone, b_undone⟩ := cun
  refine D.cl fun f fd F => F.ok sc_row_of (fun vs H Q E h => ?_) (fun cdv A outer s H vs Q E hr h => ?_)
  · obtain ⟨p, a, u, ns, row, rfl, _⟩ := h
    rfl
  · obtain ⟨p, a, u, ns, row, rfl, ⟨dx, hp⟩, hl, ho, hn12, hpm, hrow, k⟩ := h
    refine ⟨_, (pss_cons (ps_set (i := 2) sc_row_of.nd rfl (.inl rfl) (pe_fld (pv 0) rfl))
      (pss_cons (ps_set (i := 3) sc_row_of.nd rfl (.inl rfl) (pe_callB (CallR.or cr_sortedI K12R.cr_sortedTI) (by rfl) T.sorted_ (by decide +kernel) (pa_cons (pv 1) pa_nil)))
      (pss_cons (ps_set (i := 4) sc_row_of.nd rfl (.inl rfl) (pe_lst pa_nil))
      (pss_cons (ps_for PassesOwn.never rfl (RT.pi_revA (by rfl) T.reversed_ (pv 1)) (pg_name (i := 5) sc_row_of.nd rfl (.inl rfl)) (pss_cons (ps_asg (pe_call F_undone (hr.mono (by decide)) (by rfl) g_undone k_undone b_undone .nil pass0 (pa_cons (pv 2) (pa_cons (pe_bm PySem.F.plainAttrs_list PySem.F.slot_list_index PySem.F.type_list_index mt_index (pv 3) (pa_cons (pv 5) pa_nil)) pa_nil))) (pg_tup (n := 2) rfl (pgs_cons (pg_name (i := 2) sc_row_of.nd rfl (.inl rfl)) (pgs_cons (pg_name (i := 6) sc_row_of.nd rfl (.inl rfl)) pgs_nil))))
      (pss_cons (ps_expr (pe_bm PySem.F.plainAttrs_list PySem.F.slot_list_remove PySem.F.type_list_remove mt_remove (pv 3) (pa_cons (pv 5) pa_nil)))
      (pss_one (ps_expr (pe_bm PySem.F.plainAttrs_list PySem.F.slot_list_append PySem.F.type_list_append mt_append (pv 4) (pa_cons (pv 6) pa_nil)))))))
      (pss_one (ps_ret (RT.pe_tupRev rfl (by rfl) T.tuple_ (by rfl) T.reversed_ (pv 4)))))))), ?_⟩
    simp [tSeq, tIfS, tOr, tAnd, tNot, tB, tCB, tCons, tNil, tVar, tC, tTest, tChain, rI0, rI, tOp, tUn, rU, tRet, tRetN, tNext, rNe, rEq, tAug, tAsg, gName, ipI, tDrop, tIf, tFld, tM1, tTup, tLst, tSl, tPart, rSlS, rIxS, tCall, tMeth, tProp, tMake, gTup, gCons, gNil, tPar, rAppend, tyV, tThen, tNotN, tIsN, tNotV, tRg1, tLstRg, scal, flds_word, gSub, tBM, S_len, S_app, S_count, S_take, S_drop, S_cut, S_rep, lit_d, lit_o, lit_do, lit_od, lit_e, L2.start, wipe, and_assoc, tAndV, tOrV, tNoPart, Int.ofNat_inj, hp, T.cl, T.nW]
    obtain ⟨Pv, hPv⟩ : ∃ Pv : Addr → Addr → List V → L2.St → Hp → Prop, ∀ l q r σ H2, Pv l q r σ H2 ↔ ∃ (rs left : List Nat) (w : Wd) (acc : List V) (ps : List Pull) (x5 x6 : Option V), r = (nints rs).map V.int ∧ σ = [some (.ref p), some (.ref a), some (.str (S w)), some (.ref l), some (.ref q), x5, x6] ∧ H2 l = some (.lst ((nints left).map V.int)) ∧ H2 q = some (.lst acc) ∧ SX [l, q] H H2 ∧ DpAll K (nwx [l, q] H H2) acc (ps.map dPull) ∧ ps.length + rs.length = ns.length ∧ rowGo w left rs ps.reverse = some row := ⟨_, fun _ _ _ _ _ => Iff.rfl⟩
    have step : ∀ (l q : Addr) (v : V) (r : List V) (σ : L2.St) (H2 : Hp), H l = none → H q = none → l ≠ q → Pv l q (v :: r) σ H2 → True := fun _ _ _ _ _ _ _ _ _ _ => trivial
    have key : ∀ (ns' : List Int) (l : Addr), ns'.Perm (nints ns) → ns'.Pairwise (· ≤ ·) → H l = none → ∀ q, upd H l (.lst (ns'.map V.int)) q = none → Pv l q ((nints ns).map V.int).reverse [some (V.ref p), some (V.ref a), some (V.str (S u)), some (V.ref l), some (V.ref q), none, none] (upd (upd H l (.lst (ns'.map V.int))) q (.lst [])) := by
      intro ns' l h1 h2 hl q hq
      refine (hPv _ _ _ _ _).mpr ⟨ns.reverse, List.range ns.length, u, [], [], none, none, ?_, rfl, ?_, upd_same, ?_, .nil, by simp, hrow⟩
      · simp [nints]
      · rw [sorted_range h1 h2 hpm]
        exact some_new upd_same (by rw [← sorted_range h1 h2 hpm]; exact hq)
      · exact SX.put (X := [l, q]) (SX.put (X := [l, q]) SX.rfl' (by simp)) (by simp)
    have step : ∀ (l q : Addr) (b : V) (r : List V) (σ : L2.St) (H2 : Hp) (Dn : Ends), H l = none → H q = none → l ≠ q → Pv l q (b :: r) σ H2 → gName 5 b σ H2 fun σ2 H2 => (tSeq
              (tAsg
                (tCall (spUndone K) [] E0
                  (tCons (tVar 2) (tCons (tBM K "list" (rIndex K) (tVar 3) (tCons (tVar 5) tNil)) tNil)))
                (gTup K 2 (gCons (gName 2) (gCons (gName 6) gNil))))
              (tSeq (tDrop (tBM K "list" rRemI (tVar 3) (tCons (tVar 5) tNil)))
                (tDrop (tBM K "list" rAppend (tVar 4) (tCons (tVar 6) tNil))))) { Dn with nx := Pv l q r, ct := Pv l q r, bk := Dn.nx } σ2 H2 := by
      intro l q b r σ H2 Dn hl0 hq0 hlq hP
      obtain ⟨rs, left, w0, acc, ps, x5, x6, hr2, rfl, h2l, h2q, e2, hd, hpl, hg⟩ := (hPv _ _ _ _ _).mp hP
      cases rs with
      | nil => cases hr2
      | cons t rs =>
        have hr2 : b = .int (t : Int) ∧ r = (nints rs).map V.int := by
          obtain ⟨a1, a2⟩ := List.cons.inj hr2
          exact ⟨a1, a2⟩
        obtain ⟨rfl, rfl⟩ := hr2
        unfold rowGo at hg
        split at hg
        · rename_i hc
          simp only [Bool.and_eq_true] at hc
          split at hg
          · rename_i w' pl hun
            obtain ⟨i1, i2⟩ := idx_spec left t hc.2
            have hL : ∃ xs, SqL K H2 l xs := ⟨_, sqL_of h2l⟩
            simp [tSeq, tIfS, tOr, tAnd, tNot, tB, tCB, tCons, tNil, tVar, tC, tTest, tChain, rI0, rI, tOp, tUn, rU, tRet, tRetN, tNext, rNe, rEq, tAug, tAsg, gName, ipI, tDrop, tIf, tFld, tM1, tTup, tLst, tSl, tPart, rSlS, rIxS, tCall, tMeth, tProp, tMake, gTup, gCons, gNil, tPar, rAppend, tyV, tThen, tNotN, tIsN, tNotV, tRg1, tLstRg, scal, flds_word, gSub, tBM, S_len, S_app, S_count, S_take, S_drop, S_cut, S_rep, lit_d, lit_o, lit_do, lit_od, lit_e, L2.start, wipe, and_assoc, tAndV, tOrV, tNoPart, Int.ofNat_inj, hL]
            refine ⟨l, _, _, left.idxOf t, .int (t : Int), rfl, rfl, sqL_of h2l, rfl, ?_, by rw [List.getElem?_map, nints_get i1]; rfl, by simp [eqV], ?_, ?_⟩
            · simp [nints, flatV]
            · intro m z' hm hz
              rw [List.getElem?_map] at hz
              have := nints_ne (i2 m hm)
              cases e : (nints left)[m]? with
              | none => rw [e] at hz; cases hz
              | some z =>
                rw [e] at hz this
                cases hz
                simp [eqV]
                intro c
                exact this (by rw [c])
            · refine ⟨w0, left.idxOf t, (w', pl), rfl, hc.1, hun, fun H3 v e3 hv => ?_⟩
              obtain ⟨a3, xs3, rfl, hs3, hd3⟩ := dp_tupI hv
              cases hd3 with
              | cons d1 hd3 => cases hd3 with
                | cons d2 hd3 =>
                  cases hd3
                  cases dp_strI d1
                  refine ⟨a3, rfl, _, seqT_same nw_sub hs3, rfl, _, _, rfl, _, _, rfl, rfl, ?_⟩
                  have h3l := e3 _ _ h2l
                  have h3q := e3 _ _ h2q
                  have hL3 : ∃ xs, SqL K H3 l xs := ⟨_, sqL_of h3l⟩
                  simp [tSeq, tIfS, tOr, tAnd, tNot, tB, tCB, tCons, tNil, tVar, tC, tTest, tChain, rI0, rI, tOp, tUn, rU, tRet, tRetN, tNext, rNe, rEq, tAug, tAsg, gName, ipI, tDrop, tIf, tFld, tM1, tTup, tLst, tSl, tPart, rSlS, rIxS, tCall, tMeth, tProp, tMake, gTup, gCons, gNil, tPar, rAppend, tyV, tThen, tNotN, tIsN, tNotV, tRg1, tLstRg, scal, flds_word, gSub, tBM, S_len, S_app, S_count, S_take, S_drop, S_cut, S_rep, lit_d, lit_o, lit_do, lit_od, lit_e, L2.start, wipe, and_assoc, tAndV, tOrV, tNoPart, Int.ofNat_inj, hL3]
                  refine ⟨l, nints left, _, left.idxOf t, rfl, rfl, h3l, nints_get i1, fun m hm => nints_ne (i2 m hm), ?_⟩
                  have h4q : ∀ o, upd H3 l o q = some (.lst acc) := fun o => by rw [upd_ne (Ne.symm hlq), h3q]
                  refine ⟨⟨_, sqL_of (h4q _)⟩, acc, h4q _, ?_, ?_⟩
                  · have := dpA_len hd
                    simp at this hpl
                    exact small' (by omega)
                  · rename_i v2
                    have hX : ∀ x ∈ [l, q], ∃ o, H2 x = some o := by simp [h2l, h2q]
                    have e5 : SX [l, q] H3 (upd (upd H3 l (.lst (((nints left).eraseIdx (left.idxOf t)).map V.int))) q (.lst (acc ++ [v2]))) := SX.put (X := [l, q]) (SX.put (X := [l, q]) SX.rfl' (by simp)) (by simp)
                    refine (hPv _ _ _ _ _).mpr ⟨rs, left.eraseIdx (left.idxOf t), w', acc ++ [v2], ps ++ [pl], _, _, rfl, rfl, ?_, upd_same, (e2.trans (SX.of e3)).trans e5, ?_, by simp at hpl ⊢; omega, by simpa using hg⟩
                    · rw [upd_ne hlq, upd_same, nints_er]
                    · rw [List.map_append]
                      exact dpA_app (DpAll.same hd (nwx_mono ((SX.of e3).trans e5))) (.cons (Dp.same d2 ((nw_nwx e2 hX).trans (nwx_mono e5))) .nil)
          · cases hg
        · cases hg
    have hsame : ∀ l q r σ H2, H l = none → H q = none → Pv l q r σ H2 → Same H H2 := by
      intro l q r σ H2 hl hq hP
      obtain ⟨rs, left, w0, acc, ps, x5, x6, _, _, _, _, e2, _⟩ := (hPv _ _ _ _ _).mp hP
      exact e2.same (by simp [hl, hq])
    have fin : ∀ l q σ H2, H l = none → H q = none → Pv l q [] σ H2 → tRet (RT.tTupRev K (tVar 4)) { nx := fun x H' => Q V.non H', rt := Q } σ H2 := by
      intro l q σ H2 hl hq hP
      have hS := hsame _ _ _ _ _ hl hq hP
      obtain ⟨rs, left, w0, acc, ps, x5, x6, hr, rfl, h2l, h2q, e2, hd, hpl, hg⟩ := (hPv _ _ _ _ _).mp hP
      cases rs with
      | cons t rs => cases hr
      | nil =>
        unfold rowGo at hg
        injection hg with hg
        refine ⟨_, rfl, q, acc, rfl, sqL_of h2q, fun t ht => k _ _ (hS.trans (same_new ht)) ?_⟩
        have h0 := new_old e2 (by simp [h2l, h2q]) ht
        rw [← hg]
        unfold dRow
        rw [List.map_reverse]
        exact dp_tup (by rw [nw_at h0, upd_same]) (dpA_rev (DpAll.same hd (nwx_nw.trans (nw_new ht))))
    have old : ∀ {l q : Addr} {o : HO}, upd H l o q = none → H q = none ∧ l ≠ q := by
      intro l q o h
      by_cases e : q = l
      · subst e
        rw [upd_same] at h
        cases h
      · rw [upd_ne e] at h
        exact ⟨h, fun c => e c.symm⟩
    rcases ho with ho | ho
    · refine .inl ⟨a, nints ns, rfl, ho, fun ns' l h1 h2 hl0 q hq => ?_⟩
      obtain ⟨hq0, hlq⟩ := old hq
      have hP0 := key ns' l h1 h2 hl0 q hq
      refine ⟨_, rfl, a, (nints ns).map V.int, rfl, .inl ⟨(hsame _ _ _ _ _ hl0 hq0 hP0).seq ho, for_revL (F := H) ho (Pv l q) (fun r σ H2 h => hsame _ _ _ _ _ hl0 hq0 h) hP0 (fun v r σ H2 h => step l q v r σ H2 _ hl0 hq0 hlq h) (fun σ H2 h => fin l q σ H2 hl0 hq0 h)⟩⟩
    · refine .inr ⟨a, nints ns, rfl, ho, fun ns' l h1 h2 hl0 q hq => ?_⟩
      obtain ⟨hq0, hlq⟩ := old hq
      have hP0 := key ns' l h1 h2 hl0 q hq
      refine ⟨_, rfl, a, (nints ns).map V.int, rfl, .inr ⟨seqT_same (hsame _ _ _ _ _ hl0 hq0 hP0) ho, for_revT (F := H) ho (Pv l q) (fun r σ H2 h => hsame _ _ _ _ _ hl0 hq0 h) hP0 (fun v r σ H2 h => step l q v r σ H2 _ hl0 hq0 hlq h) (fun σ H2 h => fin l q σ H2 hl0 hq0 h)⟩⟩
/-! ### fewest_pulls -/
theorem rgok : ∀ n : Nat, n < 12 → K12R.RgOkC ((n : Int) - 1) (-1) (-1) n := by
  unfold K12R.RgOkC
  decide +kernel
theorem rgVC_down (n : Nat) : K12R.rgVC ((n : Int) - 1) (-1) n = (nints (List.range n).reverse).map V.int := by
  unfold K12R.rgVC nints
  apply List.ext_getElem?
  intro i
  simp
  by_cases h : i < n
  · simp [h]
    omega
  · simp [h]
def spFew (K : PySem.W.Frag) (C : Addr) : Sp := fun vs H Q _ => ∃ (p : Addr) (u : Wd) (row : List Pull), vs = [.ref p] ∧ ColAt C H p u ∧ u.length ≤ 12 ∧ rowM u (ridgesM u) (List.range (ridgesM u)).reverse = some row ∧ ∀ H' v, Same H H' → Dp K (nw H H') v (dRow row) → Q v H'
theorem cl_few (T : Txt K mg C) (crow : Cl P w K mg base 5 "row_of" ["column", "order"] (spRow K C)) (crd : ClP P w K mg base 3 C "ridges" (spGet K C fun u => .int (ridgesM u : Nat))) (D : Df K mg "fewest_pulls" s_fewest_pulls ["column"]) : Cl P w K mg base 6 "fewest_pulls" ["column"] (spFew K C) := by
  obtain ⟨f_row_of, fd_row_of, F_row_of, g_row_of, k_row_of, b_row_of⟩ := crow
  obtain ⟨_, g_ridges, fd_ridges, p_ridges, F_ridges, b_ridges⟩ := crd
  refine D.cl fun f fd F => F.ok sc_fewest_pulls (fun vs H Q E h => ?_) (fun cdv A outer s H vs Q E hr h => ?_)
  · obtain ⟨p, u, row, rfl, _⟩ := h
    rfl
  · obtain ⟨p, u, row, rfl, ⟨dx, hp⟩, hl, hrow, k⟩ := h
    have hr12 := ridges_le u
    refine ⟨_, (pss_one (ps_ret (pe_call F_row_of (hr.mono (by decide)) (by rfl) g_row_of k_row_of b_row_of .nil pass0 (pa_cons (pv 0) (pa_cons (K12R.pe_listRg3 rfl (by rfl) T.list_ (by rfl) T.range_ (pe_op op_sub (pe_prop (pv 0) T.cl p_ridges F_ridges (hr.mono (by decide)) b_ridges .nil pass0 rfl) pe_int) (pe_un un_neg pe_int) (pe_un un_neg pe_int)) pa_nil))))), ?_⟩
    simp [tSeq, tIfS, tOr, tAnd, tNot, tB, tCB, tCons, tNil, tVar, tC, tTest, tChain, rI0, rI, tOp, tUn, rU, tRet, tRetN, tNext, rNe, rEq, tAug, tAsg, gName, ipI, tDrop, tIf, tFld, tM1, tTup, tLst, tSl, tPart, rSlS, rIxS, tCall, tMeth, tProp, tMake, gTup, gCons, gNil, tPar, rAppend, tyV, tThen, tNotN, tIsN, tNotV, tRg1, tLstRg, scal, flds_word, gSub, tBM, S_len, S_app, S_count, S_take, S_drop, S_cut, S_rep, lit_d, lit_o, lit_do, lit_od, lit_e, L2.start, wipe, and_assoc, tAndV, tOrV, tNoPart, Int.ofNat_inj, hp, T.cl, T.nW]
    refine ⟨p, u, rfl, ⟨dx, hp⟩, hl, fun H1 v e1 hv => ?_⟩
    cases dp_intI hv
    refine ⟨_, rfl, ⟨by decide, by omega, by decide⟩, ridgesM u, ?_, fun q hq => ?_⟩
    · exact rgok _ (by omega)
    · rw [rgVC_down]
      refine ⟨p, q, u, (List.range (ridgesM u)).reverse, row, rfl, ⟨dx, (e1.trans (same_new hq)) _ _ hp⟩, hl, .inl (sqL_of upd_same), by simp; omega, ?_, ?_, fun H2 v e2 hv => ?_⟩
      · rw [List.length_reverse, List.length_range]
        exact List.reverse_perm _
      · rw [List.length_reverse, List.length_range]
        exact hrow
      · have e3 := (e1.trans (same_new hq)).trans e2
        refine k _ _ e3 (Dp.same hv fun b o h => ?_)
        obtain ⟨h1, h2⟩ := nw_of h
        rw [nw_at]
        · exact h2
        · cases z : H b with
          | none => rfl
          | some o =>
            rw [(e1.trans (same_new hq)) _ _ z] at h1
            cases h1
/-! ### how_many_fewest -/
def spMany (C : Addr) : Sp := fun vs H Q _ => ∃ (p : Addr) (u : Wd), vs = [.ref p] ∧ ColAt C H p u ∧ u.length ≤ 12 ∧ ∀ H', Same H H' → Q (.int (fact (ridgesM u) : Nat)) H'
theorem cl_many (T : Txt K mg C) (crd : ClP P w K mg base 3 C "ridges" (spGet K C fun u => .int (ridgesM u : Nat))) (D : Df K mg "how_many_fewest" s_how_many_fewest ["column"]) : Cl P w K mg base 5 "how_many_fewest" ["column"] (spMany C) := by
  obtain ⟨_, g_ridges, fd_ridges, p_ridges, F_ridges, b_ridges⟩ := crd
  refine D.cl fun f fd F => F.ok sc_how_many_fewest (fun vs H Q E h => ?_) (fun cdv A outer s H vs Q E hr h => ?_)
  · obtain ⟨p, u, rfl, _⟩ := h
    rfl
  · obtain ⟨p, u, rfl, ⟨dx, hp⟩, hl, k⟩ := h
    have hr12 := ridges_le u
    refine ⟨_, (pss_cons (ps_set (i := 1) sc_how_many_fewest.nd rfl (.inl rfl) pe_int)
      (pss_cons (ps_for PassesOwn.never rfl (pi_range1 (by rfl) T.range_ (pa_cons (pe_prop (pv 0) T.cl p_ridges F_ridges (hr.mono (by decide)) b_ridges .nil pass0 rfl) pa_nil)) (pg_name (i := 2) sc_how_many_fewest.nd rfl (.inl rfl)) (pss_one (ps_set (i := 1) sc_how_many_fewest.nd rfl (.inl rfl) (pe_op op_mul (pv 1) (pe_op op_add (pv 2) pe_int)))))
      (pss_one (ps_ret (pv 1))))), ?_⟩
    simp [tSeq, tIfS, tOr, tAnd, tNot, tB, tCB, tCons, tNil, tVar, tC, tTest, tChain, rI0, rI, tOp, tUn, rU, tRet, tRetN, tNext, rNe, rEq, tAug, tAsg, gName, ipI, tDrop, tIf, tFld, tM1, tTup, tLst, tSl, tPart, rSlS, rIxS, tCall, tMeth, tProp, tMake, gTup, gCons, gNil, tPar, rAppend, tyV, tThen, tNotN, tIsN, tNotV, tRg1, tLstRg, scal, flds_word, gSub, tBM, S_len, S_app, S_count, S_take, S_drop, S_cut, S_rep, lit_d, lit_o, lit_do, lit_od, lit_e, L2.start, wipe, and_assoc, tAndV, tOrV, tNoPart, Int.ofNat_inj, hp, T.cl, T.nW]
    refine ⟨_, rfl, p, dx, _, rfl, hp, p, u, rfl, ⟨dx, hp⟩, hl, fun H1 v e1 hv => ?_⟩
    cases dp_intI hv
    refine ⟨_, rfl, by omega, by omega, for_range (n := ridgesM u) (fun i σ H2 => ∃ x, σ = [some (.ref p), some (.int (fact i : Nat)), x] ∧ Same H H2) ⟨none, rfl, e1⟩ ?_ ?_⟩
    · rintro i σ H2 hi ⟨x, rfl, e2⟩
      simp [tSeq, tIfS, tOr, tAnd, tNot, tB, tCB, tCons, tNil, tVar, tC, tTest, tChain, rI0, rI, tOp, tUn, rU, tRet, tRetN, tNext, rNe, rEq, tAug, tAsg, gName, ipI, tDrop, tIf, tFld, tM1, tTup, tLst, tSl, tPart, rSlS, rIxS, tCall, tMeth, tProp, tMake, gTup, gCons, gNil, tPar, rAppend, tyV, tThen, tNotN, tIsN, tNotV, tRg1, tLstRg, scal, flds_word, gSub, tBM, S_len, S_app, S_count, S_take, S_drop, S_cut, S_rep, lit_d, lit_o, lit_do, lit_od, lit_e, L2.start, wipe, and_assoc, tAndV, tOrV, tNoPart, Int.ofNat_inj]
      refine ⟨.inr ⟨by omega, by omega⟩, ?_, e2⟩
      simp [fact]
    · rintro σ H2 ⟨x, rfl, e2⟩
      exact ⟨_, rfl, k _ e2⟩
end
end K12
set_option Elab.async false
set_option linter.all false
set_option maxRecDepth 100000
set_option maxHeartbeats 4000000
namespace K12
open PySem PySem.Spec PyProof.Rows L2 K12M
abbrev s_orders_of : Stmt := top 17
theorem sc_orders_of : FnScope ["things", "found", "k", "longer", "order", "thing"] ["things"] (defScope s_orders_of) := ⟨rfl, rfl, rfl, by decide +kernel, rfl, by decide +kernel, by decide +kernel⟩
def dOrd (o : List Nat) : PyData := .tuple ((nints o).map PyData.int)
def stepf (n : Nat) (o : List Nat) : List (List Nat) := ((List.range n).filter fun t => !o.contains t).map fun t => o ++ [t]
theorem step_flat (n : Nat) (found : List (List Nat)) : ordersStep n found = found.flatMap (stepf n) := rfl
theorem stepf_len (n : Nat) (o : List Nat) : (stepf n o).length ≤ n := by
  unfold stepf
  rw [List.length_map]
  exact Nat.le_trans (List.length_filter_le _ _) (by rw [List.length_range]; exact Nat.le_refl _)
theorem flat_len (n : Nat) : ∀ found : List (List Nat), (found.flatMap (stepf n)).length ≤ n * found.length
  | [] => by simp
  | o :: found => by
    have h1 := stepf_len n o
    have h2 := flat_len n found
    rw [List.flatMap_cons, List.length_append, List.length_cons, Nat.mul_succ]
    omega
theorem inV_ints (t : Nat) : ∀ o : List Nat, inV (.int (t : Int)) ((nints o).map V.int) = o.contains t
  | [] => rfl
  | x :: o => by
    have ih := inV_ints t o
    unfold inV at ih ⊢
    show (eqV (.int ((x : Nat) : Int)) (.int (t : Int)) || ((nints o).map V.int).any fun y => eqV y (.int (t : Int))) = _
    rw [ih]
    rw [List.contains_cons]
    congr 1
    show (((x : Nat) : Int) == (t : Int)) = (t == x)
    rw [Bool.eq_iff_iff]
    simp
    omega
theorem flats (o : List Nat) : ((nints o).map V.int).all flatV = true := by
  simp [nints, flatV]
theorem big {n : Nat} (h : n ≤ 1000000) : n ≤ sizeLine := Nat.le_trans h (by decide)
theorem big' {n : Nat} (h : n ≤ 1000000) : n < sizeLine := Nat.lt_of_le_of_lt h (by decide)
theorem new_ne {H : Hp} {l q : Addr} {o : HO} (h : upd H l o q = none) : H q = none ∧ l ≠ q := by
  by_cases e : q = l
  · subst e
    rw [upd_same] at h
    cases h
  · rw [upd_ne e] at h
    exact ⟨h, fun c => e c.symm⟩
theorem none_back {H H' : Hp} {q : Addr} (e : Same H H') (h : H' q = none) : H q = none := by
  cases z : H q with
  | none => rfl
  | some o =>
    rw [e _ _ z] at h
    cases h
section
variable {P : Program} {w : World} {K : PySem.W.Frag} {mg : Str → Option Value} {base : Heap} {C : Addr}
/-! ### orders_of -/
def spOrders (K : PySem.W.Frag) : Sp := fun vs H Q _ => ∃ (a : Addr) (n : Nat), vs = [.ref a] ∧ SqL K H a ((nints (List.range n)).map V.int) ∧ n ≤ 6 ∧ ∀ H' v, Same H H' → Dp K (nw H H') v (.list ((ordersM n).map dOrd)) → Q v H'
theorem cl_orders (T : Txt K mg C) (D : Df K mg "orders_of" s_orders_of ["things"]) : Cl P w K mg base 1 "orders_of" ["things"] (spOrders K) := by
  refine D.cl fun f fd F => F.ok sc_orders_of (fun vs H Q E h => ?_) (fun cdv A outer s H vs Q E hr h => ?_)
  · obtain ⟨a, n, rfl, _⟩ := h
    rfl
  · obtain ⟨a, n, rfl, hs, hn, k⟩ := h
    refine ⟨_, (pss_cons (ps_set (i := 1) sc_orders_of.nd rfl (.inl rfl) (pe_lst (pa_cons (pe_tup pa_nil) pa_nil)))
      (pss_cons (ps_for PassesOwn.never rfl (pi_range1 (by rfl) T.range_ (pa_cons (pe_callB call_len_seq (by rfl) T.len_ PySem.boot_len (pa_cons (pv 0) pa_nil)) pa_nil)) (pg_name (i := 2) sc_orders_of.nd rfl (.inl rfl)) (pss_cons (ps_set (i := 3) sc_orders_of.nd rfl (.inl rfl) (pe_lst pa_nil))
      (pss_cons (ps_for PassesOwn.never rfl (pi_list (pe_callTy call_list_of (by rfl) T.list_ (by decide +kernel) (pa_cons (pv 1) pa_nil))) (pg_name (i := 4) sc_orders_of.nd rfl (.inr rfl)) (pss_one (ps_expr (pe_bm PySem.F.plainAttrs_list PySem.F.slot_list_extend PySem.F.type_list_extend mt_extend (pv 3) (pa_cons (pe_lc (own := [("thing", 5)]) (by rfl) sc_orders_of.nd (pi_list (pv 0)) (blkOk_by (N := ["things", "found", "k", "longer", "order", "thing"]) (sc := defScope s_orders_of) (own := [("thing", 5)]) (by decide +kernel)) (fun _ _ _ _ _ => pg_name (i := 5) sc_orders_of.nd rfl (.inl rfl)) (fun _ _ _ _ _ => pts_one (pt_cmpR (show OpR _ (compareOp .NotIn) (rIn K true) from op_notIn_seq) (pv 5) (pv 4) (by rfl))) (fun _ _ _ _ _ => (pe_op (show OpR _ (binaryOp .Add) (rCatA K) from op_catA) (pv 4) (pe_tup (pa_cons (pv 5) pa_nil))))) pa_nil)))))
      (pss_one (ps_set (i := 1) sc_orders_of.nd rfl (.inl rfl) (pv 3))))))
      (pss_one (ps_ret (pv 1))))), ?_⟩
    simp [tSeq, tIfS, tOr, tAnd, tNot, tB, tCB, tCons, tNil, tVar, tC, tTest, tChain, rI0, rI, tOp, tUn, rU, tRet, tRetN, tNext, rNe, rEq, tAug, tAsg, gName, ipI, tDrop, tIf, tFld, tM1, tTup, tLst, tSl, tPart, rSlS, rIxS, tCall, tMeth, tProp, tMake, gTup, gCons, gNil, tPar, rAppend, tyV, tThen, tNotN, tIsN, tNotV, tRg1, tLstRg, scal, flds_word, gSub, tBM, S_len, S_app, S_count, S_take, S_drop, S_cut, S_rep, lit_d, lit_o, lit_do, lit_od, lit_e, L2.start, wipe, and_assoc, tAndV, tOrV, tNoPart, Int.ofNat_inj]
    intro p hp q hq
    obtain ⟨hq0, hpq⟩ := new_ne hq
    obtain ⟨Po, hPo⟩ : ∃ Po : Nat → L2.St → Hp → Prop, ∀ i σ H2, Po i σ H2 ↔ ∃ (q : Addr) (acc : List V) (found : List (List Nat)) (x2 x3 x4 x5 : Option V), σ = [some (.ref a), some (.ref q), x2, x3, x4, x5] ∧ H2 q = some (.lst acc) ∧ Same H H2 ∧ H q = none ∧ DpAll K (nw H H2) acc (found.map dOrd) ∧ found.length ≤ 6 ^ i ∧ (∀ o ∈ found, o.length ≤ i) ∧ ordersGo n (n - i) found = ordersM n := ⟨_, fun _ _ _ => Iff.rfl⟩
    have eA : Same H (upd (upd H p (.tup [])) q (.lst [.ref p])) := (same_new hp).trans (same_new hq)
    refine forJ (Itr 0 n) _ (fun R r => ?_) (for_range (n := n) Po ((hPo _ _ _).mpr ⟨q, _, [[]], none, none, none, none, rfl, upd_same, eA, hq0, .cons (dp_tup (by rw [nw_at hp, upd_ne hpq, upd_same]) .nil) .nil, by simp, by simp, rfl⟩) ?_ ?_)
    · simp [tSeq, tIfS, tOr, tAnd, tNot, tB, tCB, tCons, tNil, tVar, tC, tTest, tChain, rI0, rI, tOp, tUn, rU, tRet, tRetN, tNext, rNe, rEq, tAug, tAsg, gName, ipI, tDrop, tIf, tFld, tM1, tTup, tLst, tSl, tPart, rSlS, rIxS, tCall, tMeth, tProp, tMake, gTup, gCons, gNil, tPar, rAppend, tyV, tThen, tNotN, tIsN, tNotV, tRg1, tLstRg, scal, flds_word, gSub, tBM, S_len, S_app, S_count, S_take, S_drop, S_cut, S_rep, lit_d, lit_o, lit_do, lit_od, lit_e, L2.start, wipe, and_assoc, tAndV, tOrV, tNoPart, Int.ofNat_inj, iRng1]
      refine ⟨_, .inl (eA.seq hs), ?_⟩
      simp [nints]
      exact ⟨by omega, r⟩
    · intro i σ H2 hi hP
      obtain ⟨q, acc, found, x2, x3, x4, x5, rfl, h2q, e2, hq, hd, hfl, hfo, hM⟩ := (hPo _ _ _).mp hP
      have hp6 : (6 : Nat) ^ i ≤ 7776 := Nat.le_trans (Nat.pow_le_pow_right (by decide) (by omega : i ≤ 5)) (by decide)
      simp [tSeq, tIfS, tOr, tAnd, tNot, tB, tCB, tCons, tNil, tVar, tC, tTest, tChain, rI0, rI, tOp, tUn, rU, tRet, tRetN, tNext, rNe, rEq, tAug, tAsg, gName, ipI, tDrop, tIf, tFld, tM1, tTup, tLst, tSl, tPart, rSlS, rIxS, tCall, tMeth, tProp, tMake, gTup, gCons, gNil, tPar, rAppend, tyV, tThen, tNotN, tIsN, tNotV, tRg1, tLstRg, scal, flds_word, gSub, tBM, S_len, S_app, S_count, S_take, S_drop, S_cut, S_rep, lit_d, lit_o, lit_do, lit_od, lit_e, L2.start, wipe, and_assoc, tAndV, tOrV, tNoPart, Int.ofNat_inj]
      intro l hl
      have hlq : l ≠ q := fun c => by rw [c, h2q] at hl; cases hl
      refine ⟨_, rfl, q, rfl, acc, .inl (sqL_of (by rw [upd_ne (Ne.symm hlq)]; exact h2q)), fun c hc => ⟨c, rfl, ⟨_, sqL_of upd_same⟩, ?_⟩⟩
      obtain ⟨hc2, hlc⟩ := new_ne hc
      obtain ⟨B, hB⟩ : ∃ B : Hp, B = upd (upd H2 l (.lst [])) c (.lst acc) := ⟨_, rfl⟩
      rw [← hB]
      have eB : SX [l] H2 B := by
        rw [hB]
        exact (SX.put (X := [l]) SX.rfl' (by simp)).trans (SX.of (same_new hc))
      have hBl : B l = some (.lst []) := by rw [hB, upd_ne hlc, upd_same]
      have eHB : SX [l] H B := (SX.of e2).trans eB
      have nF : Same (nw H H2) (nwx [l] H B) := fun b o h => by
        obtain ⟨g1, g2⟩ := nw_of h
        have hbl : ¬ b ∈ [l] := by
          simp
          intro c
          rw [c, hl] at g2
          cases g2
        exact nwx_at hbl g1 (eB _ _ g2 hbl)
      have hcF : nwx [l] H B c = some (.lst acc) := nwx_at (by simpa using (Ne.symm hlc)) (none_back e2 hc2) (by rw [hB, upd_same])
      obtain ⟨Pi, hPi⟩ : ∃ Pi : List PyData → L2.St → Hp → Prop, ∀ r σ H3, Pi r σ H3 ↔ ∃ (os : List (List Nat)) (accL : List V) (lm : List (List Nat)) (x4 x5 : Option V), r = os.map dOrd ∧ σ = [some (.ref a), some (.ref q), some (.int (i : Int)), some (.ref l), x4, x5] ∧ H3 l = some (.lst accL) ∧ SX [l] B H3 ∧ DpAll K (nwx [l] H H3) accL (lm.map dOrd) ∧ (∀ o ∈ os, o.length ≤ i) ∧ lm ++ os.flatMap (stepf n) = ordersStep n found := ⟨_, fun _ _ _ => Iff.rfl⟩
      refine for_listD (F := nwx [l] H B) (sqL_of hcF) (DpAll.same hd nF) Pi (fun r σ H3 h => ?_) ((hPi _ _ _).mpr ⟨found, [], [], _, _, rfl, rfl, hBl, SX.rfl', .nil, hfo, rfl⟩) ?_ ?_
      · obtain ⟨os, accL, lm, y4, y5, _, _, _, e3, _⟩ := (hPi _ _ _).mp h
        exact (nwx_mono e3).trans (nwx_nw.trans nw_sub)
      · intro d r v4 σ H3 hP3 hv4
        obtain ⟨os, accL, lm, y4, y5, hos, rfl, h3l, e3, hd3, hol, hM3⟩ := (hPi _ _ _).mp hP3
        cases os with
        | nil => cases hos
        | cons o os =>
          obtain ⟨rfl, rfl⟩ := List.cons.inj hos
          obtain ⟨a4, xs4, rfl, hs4, hd4⟩ := dp_tupI hv4
          have := ints_dpA _ hd4
          subst this
          have eF3 : Same (nwx [l] H B) H3 := (nwx_mono e3).trans (nwx_nw.trans nw_sub)
          have eH3 : SX [l] H H3 := eHB.trans e3
          have hSm : Same H H3 := eH3.same (by simp [none_back e2 hl])
          have hL : ∃ xs, SqL K H3 l xs := ⟨_, sqL_of h3l⟩
          simp [tSeq, tIfS, tOr, tAnd, tNot, tB, tCB, tCons, tNil, tVar, tC, tTest, tChain, rI0, rI, tOp, tUn, rU, tRet, tRetN, tNext, rNe, rEq, tAug, tAsg, gName, ipI, tDrop, tIf, tFld, tM1, tTup, tLst, tSl, tPart, rSlS, rIxS, tCall, tMeth, tProp, tMake, gTup, gCons, gNil, tPar, rAppend, tyV, tThen, tNotN, tIsN, tNotV, tRg1, tLstRg, scal, flds_word, gSub, tBM, S_len, S_app, S_count, S_take, S_drop, S_cut, S_rep, lit_d, lit_o, lit_do, lit_od, lit_e, L2.start, wipe, and_assoc, tAndV, tOrV, tNoPart, Int.ofNat_inj, hL]
          refine ⟨_, rfl, a, rfl, ⟨_, hSm.seq hs⟩, fun Dl hDl => ?_⟩
          have hDlH := none_back hSm hDl
          have hlD : l ≠ Dl := ne_of_none h3l hDl
          have hl0 := none_back e2 hl
          obtain ⟨Rc, hRc⟩ : ∃ Rc : List PyData → List V → Hp → Prop, ∀ r acc H4, Rc r acc H4 ↔ ∃ (ts : List Nat) (ds : List (List Nat)), r = (nints ts).map PyData.int ∧ Same H3 H4 ∧ DpAll K (nwx [l, Dl] H H4) acc (ds.map dOrd) ∧ ds ++ (ts.filter fun t => !o.contains t).map (fun t => o ++ [t]) = stepf n o := ⟨_, fun _ _ _ => Iff.rfl⟩
          refine lc_listR (F := H) hs (dpA_ints _) Rc (fun r acc H4 h => ?_) ((hRc _ _ _).mpr ⟨List.range n, [], rfl, same_new hDl, .nil, rfl⟩) ?_ ?_
          · obtain ⟨ts, ds, _, e4, _⟩ := (hRc _ _ _).mp h
            exact hSm.trans e4
          · intro d r acc v H4 hD4 hR hv
            obtain ⟨ts, ds, hts, e4, hd4, hM4⟩ := (hRc _ _ _).mp hR
            cases ts with
            | nil => cases hts
            | cons t ts =>
              have hts : d = .int (t : Int) ∧ r = (nints ts).map PyData.int := by
                obtain ⟨g1, g2⟩ := List.cons.inj hts
                exact ⟨g1, g2⟩
              obtain ⟨rfl, rfl⟩ := hts
              cases dp_intI hv
              have h4a : SqT K H4 a4 ((nints o).map V.int) := seqT_same (eF3.trans e4) hs4
              have h4l := e4 _ _ h3l
              have hX : ∀ x ∈ [l, Dl], ∃ o, H4 x = some o := by simp [h4l, hD4]
              have eX : SX [l, Dl] H H4 := (eH3.mono (by simp)).trans (SX.of e4)
              have hlen : acc.length ≤ n := by
                have g1 := congrArg List.length hM4
                have g2 := stepf_len n o
                have g3 := dpA_len hd4
                simp at g1 g3
                omega
              simp [LcTurn, LcN, tSeq, tIfS, tOr, tAnd, tNot, tB, tCB, tCons, tNil, tVar, tC, tTest, tChain, rI0, rI, tOp, tUn, rU, tRet, tRetN, tNext, rNe, rEq, tAug, tAsg, gName, ipI, tDrop, tIf, tFld, tM1, tTup, tLst, tSl, tPart, rSlS, rIxS, tCall, tMeth, tProp, tMake, gTup, gCons, gNil, tPar, rAppend, tyV, tThen, tNotN, tIsN, tNotV, tRg1, tLstRg, scal, flds_word, gSub, tBM, S_len, S_app, S_count, S_take, S_drop, S_cut, S_rep, lit_d, lit_o, lit_do, lit_od, lit_e, L2.start, wipe, and_assoc, tAndV, tOrV, tNoPart, Int.ofNat_inj]
              refine ⟨a4, _, rfl, .inr h4a, rfl, flats o, ?_⟩
              rw [inV_ints]
              cases hc : o.contains t
              · rw [List.filter_cons, if_pos (by rw [hc]; rfl), List.map_cons] at hM4
                simp [tSeq, tIfS, tOr, tAnd, tNot, tB, tCB, tCons, tNil, tVar, tC, tTest, tChain, rI0, rI, tOp, tUn, rU, tRet, tRetN, tNext, rNe, rEq, tAug, tAsg, gName, ipI, tDrop, tIf, tFld, tM1, tTup, tLst, tSl, tPart, rSlS, rIxS, tCall, tMeth, tProp, tMake, gTup, gCons, gNil, tPar, rAppend, tyV, tThen, tNotN, tIsN, tNotV, tRg1, tLstRg, scal, flds_word, gSub, tBM, S_len, S_app, S_count, S_take, S_drop, S_cut, S_rep, lit_d, lit_o, lit_do, lit_od, lit_e, L2.start, wipe, and_assoc, tAndV, tOrV, tNoPart, Int.ofNat_inj]
                intro pt hpt
                have hpt0 := new_old eX hX hpt
                have hptX := new_not hX hpt
                have e5 := same_new (o := HO.tup [V.int (t : Int)]) hpt
                have fin : ∀ (v : V) (H5 : Hp), Same H4 H5 → Dp K (nwx [l, Dl] H H5) v (dOrd (o ++ [t])) → ∃ acc_1, H5 Dl = some (.lst acc_1) ∧ acc_1.length < sizeLine ∧ ∃ acc_2, upd H5 Dl (.lst (acc_1 ++ [v])) Dl = some (.lst acc_2) ∧ Rc (List.map PyData.int (nints ts)) acc_2 (upd H5 Dl (.lst (acc_1 ++ [v]))) := by
                  intro v H5 e6 hv5
                  refine ⟨acc, e6 _ _ hD4, big' (by omega), _, upd_same, (hRc _ _ _).mpr ⟨ts, ds ++ [o ++ [t]], rfl, same_mut (e4.trans e6) hDl, ?_, by rw [List.append_assoc]; exact hM4⟩⟩
                  rw [List.map_append]
                  exact (app_val (X := [l, Dl]) (by simp) (DpAll.same hd4 (nwx_mono (SX.of e6))) hv5).2
                refine ⟨a4, pt, _, _, rfl, rfl, seqT_same e5 h4a, sqT_of upd_same, ?_, ?_, ?_, ?_⟩
                · have := hol o (by simp)
                  simp [nints]
                  exact big (by omega)
                · intro ho
                  have ho : o = [] := by simpa [nints] using ho
                  subst ho
                  exact fin _ _ e5 (dp_tup (nwx_at hptX hpt0 upd_same) (.cons (.int _) .nil))
                · intro _ h
                  cases h
                · intro _ _ p2 hp2
                  have e7 := e5.trans (same_new (o := HO.tup ((nints o).map V.int ++ [V.int (t : Int)])) hp2)
                  have hp24 := none_back e5 hp2
                  have := fin (.ref p2) _ e7 (dp_tup (nwx_at (new_not hX hp24) (new_old eX hX hp24) upd_same) (ds := (nints (o ++ [t])).map PyData.int) ?_)
                  · exact this
                  · have := dpA_ints (K := K) (H := nwx [l, Dl] H (upd (upd H4 pt (.tup [V.int (t : Int)])) p2 (.tup ((nints o).map V.int ++ [V.int (t : Int)])))) (nints (o ++ [t]))
                    simpa [nints] using this
              · rw [List.filter_cons, if_neg (by rw [hc]; decide)] at hM4
                simp [hD4]
                exact (hRc _ _ _).mpr ⟨ts, ds, rfl, e4, hd4, hM4⟩
          · intro acc H4 hD4 hR
            obtain ⟨ts, ds, hts, e4, hd4, hM4⟩ := (hRc _ _ _).mp hR
            cases ts with
            | cons t ts => cases hts
            | nil =>
              simp at hM4
              have h4l := e4 _ _ h3l
              refine ⟨l, Dl, accL, acc, rfl, rfl, h4l, hD4, ?_, (hPi _ _ _).mpr ⟨os, _, lm ++ ds, _, _, rfl, rfl, upd_same, ?_, ?_, fun o' h' => hol o' (by simp [h']), ?_⟩⟩
              · have g1 := congrArg List.length hM3
                have g2 := flat_len n found
                have g3 := dpA_len hd3
                have g4 := dpA_len hd4
                rw [step_flat] at g1
                have g5 : n * found.length ≤ 6 * 7776 := Nat.mul_le_mul hn (Nat.le_trans hfl hp6)
                have g6 := stepf_len n o
                rw [← hM4] at g6
                simp at g3 g4 g6
                rw [List.length_append] at g1
                exact big (by omega)
              · exact (e3.trans (SX.of e4)).put (by simp)
              · rw [List.map_append]
                have eM : SX [l] H4 (upd H4 l (.lst (accL ++ acc))) := SX.put (X := [l]) SX.rfl' (by simp)
                refine dpA_app (DpAll.same hd3 (nwx_mono ((SX.of e4).trans eM))) (DpAll.same hd4 fun b o hb => ?_)
                unfold nwx at hb ⊢
                by_cases hm : b ∈ [l, Dl]
                · rw [if_pos hm] at hb
                  cases hb
                · rw [if_neg hm] at hb
                  have hm2 : ¬ b ∈ [l] := fun c => hm (by simp at c; simp [c])
                  rw [if_neg hm2]
                  obtain ⟨g1, g2⟩ := nw_of hb
                  rw [nw_at g1]
                  exact eM _ _ g2 hm2
              · rw [← hM3, List.flatMap_cons, ← hM4, List.append_assoc]
      · intro σ H3 hP3
        obtain ⟨os, accL, lm, y4, y5, hos, rfl, h3l, e3, hd3, hol, hM3⟩ := (hPi _ _ _).mp hP3
        cases os with
        | cons o os => cases hos
        | nil =>
          simp [tSeq, tIfS, tOr, tAnd, tNot, tB, tCB, tCons, tNil, tVar, tC, tTest, tChain, rI0, rI, tOp, tUn, rU, tRet, tRetN, tNext, rNe, rEq, tAug, tAsg, gName, ipI, tDrop, tIf, tFld, tM1, tTup, tLst, tSl, tPart, rSlS, rIxS, tCall, tMeth, tProp, tMake, gTup, gCons, gNil, tPar, rAppend, tyV, tThen, tNotN, tIsN, tNotV, tRg1, tLstRg, scal, flds_word, gSub, tBM, S_len, S_app, S_count, S_take, S_drop, S_cut, S_rep, lit_d, lit_o, lit_do, lit_od, lit_e, L2.start, wipe, and_assoc, tAndV, tOrV, tNoPart, Int.ofNat_inj]
          simp at hM3
          have hl0 := none_back e2 hl
          have hlen : lm.length ≤ 6 ^ (i + 1) := by
            rw [hM3, step_flat]
            refine Nat.le_trans (flat_len n found) ?_
            rw [Nat.pow_succ, Nat.mul_comm]
            exact Nat.mul_le_mul hfl hn
          refine (hPo _ _ _).mpr ⟨l, accL, lm, _, _, _, _, rfl, h3l, (eHB.trans e3).same (by simp [hl0]), hl0, DpAll.same hd3 nwx_nw, hlen, ?_, ?_⟩
          · intro o' ho'
            rw [hM3, step_flat] at ho'
            obtain ⟨o1, g1, g2⟩ := List.mem_flatMap.mp ho'
            unfold stepf at g2
            obtain ⟨t1, _, rfl⟩ := List.mem_map.mp g2
            have := hfo o1 g1
            simp
            omega
          rw [hM3, ← hM, show n - i = (n - (i + 1)) + 1 from by omega]
          rfl
    · intro σ H2 hP
      obtain ⟨q, acc, found, x2, x3, x4, x5, rfl, h2q, e2, hq, hd, hfl, hfo, hM⟩ := (hPo _ _ _).mp hP
      refine ⟨_, rfl, k _ _ e2 ?_⟩
      rw [Nat.sub_self] at hM
      rw [← hM]
      exact dp_lst (by rw [nw_at hq]; exact h2q) hd
end
end K12
set_option Elab.async false
set_option linter.all false
set_option maxRecDepth 100000
set_option maxHeartbeats 4000000
namespace K12
open PySem PySem.Spec PyProof.Rows L2 K12M
abbrev s_fewest_rows : Stmt := top 19
theorem sc_fewest_rows : GScope ["column", "order"] ["column"] (defScope s_fewest_rows) := ⟨rfl, rfl, rfl, by decide +kernel, rfl, by decide +kernel, by decide +kernel⟩
theorem ordPerm : ∀ n, n < 6 → (ordersM n).length ≤ 120 ∧ ∀ o ∈ ordersM n, o.length = n ∧ o.isPerm (List.range n) = true := by decide +kernel
section
variable {P : Program} {w : World} {K : PySem.W.Frag} {mg : Str → Option Value} {base : Heap} {C : Addr}
theorem rgV_nat (n : Nat) : rgV 0 (n : Int) = (nints (List.range n)).map V.int := by
  unfold rgV nints
  rw [List.map_map, show ((n : Int) - 0).toNat = n from by omega]
  refine List.map_congr_left fun i _ => ?_
  show V.int (0 + (i : Int)) = V.int (Int.ofNat i)
  rw [Int.zero_add]
  rfl
theorem gfor_listD {a : Addr} {xs : List V} {g : TG} {tb : TGn} {D : GEnds} {ys : List V} {σ : L2.St} {H F : Hp} {ds : List PyData} (hq : SqL K F a xs) (hd : DpAll K F xs ds) (Pv : List PyData → List V → L2.St → Hp → Prop) (hF : ∀ r ys σ H, Pv r ys σ H → Same F H) (h0 : Pv ds ys σ H)
    (hs : ∀ d r ys v σ H, Pv (d :: r) ys σ H → Dp K F v d → g v σ H fun σ2 H2 => tb { D with nx := Pv r, ct := Pv r, bk := D.nx } ys σ2 H2) (he : ∀ ys σ H, Pv [] ys σ H → D.nx ys σ H) :
    ∃ W : Nat → Nat → List V → L2.St → Hp → Prop, (∃ m, W 0 m ys σ H) ∧ ∀ i m ys σ H, W i m ys σ H →
      ((Itl K a).stop i H ∧ D.nx ys σ H) ∨ ((Itl K a).go i H ∧ ∃ N : List V → L2.St → Hp → Prop, (∀ ys' σ' H', N ys' σ' H' → ∃ m', m' < m ∧ W (i + 1) m' ys' σ' H') ∧ ∀ x H', (Itl K a).yld i H x H' → g x σ H' fun σ2 H2 => tb { D with nx := N, ct := N, bk := D.nx } ys σ2 H2) := by
  refine ⟨fun i m ys σ H => m = xs.length - i ∧ i ≤ xs.length ∧ Pv (ds.drop i) ys σ H, ⟨xs.length, by simp, Nat.zero_le _, h0⟩, ?_⟩
  rintro i m ys σ H ⟨rfl, hi, p⟩
  have hz := (hF _ _ _ _ p).seq hq
  by_cases hlt : i < xs.length
  · have e1 : xs[i]? = some xs[i] := List.getElem?_eq_getElem hlt
    obtain ⟨d, e, hv⟩ := dpA_at hd e1
    rw [drop_at e] at p
    refine .inr ⟨⟨xs, _, hz, e1⟩, fun ys' σ' H' => Pv (ds.drop (i + 1)) ys' σ' H', fun ys' σ' H' p' => ⟨xs.length - (i + 1), by omega, rfl, hlt, p'⟩, ?_⟩
    rintro x H' ⟨rfl, y⟩
    have e3 := y xs hz
    rw [e1] at e3
    cases e3
    exact hs d _ ys _ σ _ p hv
  · have e : i = xs.length := by omega
    subst e
    rw [List.drop_of_length_le (by rw [dpA_len hd]; exact Nat.le_refl _)] at p
    exact .inl ⟨⟨xs, hz, Nat.le_refl _⟩, he ys σ H p⟩
/-! ### fewest_rows -/
def spRowsG (K : PySem.W.Frag) (C : Addr) : SpG := fun vs H Q _ => ∃ (p : Addr) (u : Wd) (rows : List (List Pull)), vs = [.ref p] ∧ ColAt C H p u ∧ u.length ≤ 12 ∧ ridgesM u ≤ 5 ∧ toldM u = some rows ∧ ∀ H' ys, Same H H' → DpAll K (nw H H') ys (rows.map dRow) → Q ys H'
theorem gfn_rows (T : Txt K mg C) (crow : Cl P w K mg base 5 "row_of" ["column", "order"] (spRow K C)) (cord : Cl P w K mg base 1 "orders_of" ["things"] (spOrders K)) (crd : ClP P w K mg base 3 C "ridges" (spGet K C fun u => .int (ridgesM u : Nat))) {f : Addr} {fd : FuncData} (F : Fun K "fewest_rows" "fewest_rows" s_fewest_rows f fd) :
    GFn P w K mg base 6 f fd ["column"] (spRowsG K C) := by
  obtain ⟨f_row_of, fd_row_of, F_row_of, g_row_of, k_row_of, b_row_of⟩ := crow
  obtain ⟨f_orders_of, fd_orders_of, F_orders_of, g_orders_of, k_orders_of, b_orders_of⟩ := cord
  obtain ⟨_, g_ridges, fd_ridges, p_ridges, F_ridges, b_ridges⟩ := crd
  obtain ⟨oc, od, kV, doc, pm, an, cdv, ct, osl, rfl, lk, hcd⟩ := F.ex
  refine gfn_of lk hcd sc_fewest_rows (fun vs H Q E h => ?_) fun A outer s H vs Q E pn hr h => ?_
  · obtain ⟨p, u, rows, rfl, _⟩ := h
    rfl
  · obtain ⟨p, u, rows, rfl, ⟨dx, hp⟩, hl, hr5, hrows, k⟩ := h
    refine ⟨_, gss_cons (K12G.gs_for owns_gcx rfl (pi_list (pe_call F_orders_of (hr.mono (by decide)) (by rfl) g_orders_of k_orders_of b_orders_of .nil pass0 (pa_cons (pe_listRg rfl (by rfl) T.list_ (prg_1 (by rfl) T.range_ (pe_prop (pv 0) T.cl p_ridges F_ridges (hr.mono (by decide)) b_ridges .nil pass0 rfl))) pa_nil))) (pg_name (i := 1) sc_fewest_rows.nd rfl (.inl rfl)) (gss_cons (gs_yield (pe_call F_row_of (hr.mono (by decide)) (by rfl) g_row_of k_row_of b_row_of .nil pass0 (pa_cons (pv 0) (pa_cons (pv 1) pa_nil)))) gss_nil)) gss_nil, ?_⟩
    simp [tSeq, tIfS, tOr, tAnd, tNot, tB, tCB, tCons, tNil, tVar, tC, tTest, tChain, rI0, rI, tOp, tUn, rU, tRet, tRetN, tNext, rNe, rEq, tAug, tAsg, gName, ipI, tDrop, tIf, tFld, tM1, tTup, tLst, tSl, tPart, rSlS, rIxS, tCall, tMeth, tProp, tMake, gTup, gCons, gNil, tPar, rAppend, tyV, tThen, tNotN, tIsN, tNotV, tRg1, tLstRg, scal, flds_word, gSub, tBM, S_len, S_app, S_count, S_take, S_drop, S_cut, S_rep, lit_d, lit_o, lit_do, lit_od, lit_e, L2.start, wipe, and_assoc, tAndV, tOrV, tNoPart, Int.ofNat_inj, tGThen, tG0, hp, T.cl, T.nW]
    refine ⟨_, rfl, p, dx, _, rfl, hp, p, u, rfl, ⟨dx, hp⟩, hl, fun H1 v e1 hv => ?_⟩
    cases dp_intI hv
    refine ⟨_, rfl, RgOk.of_le (by omega) (by omega) (by omega) (by omega), fun q hq => ⟨q, ridgesM u, rfl, sqL_of (by rw [upd_same, rgV_nat]), by omega, fun H2 v e2 hv => ?_⟩⟩
    obtain ⟨a, xs, rfl, hs, hd⟩ := dp_lstI hv
    have eA : Same H H2 := (e1.trans (same_new hq)).trans e2
    obtain ⟨hol, hop⟩ := ordPerm (ridgesM u) (by omega)
    obtain ⟨B, hB⟩ : ∃ B : Hp, B = upd H1 q (.lst (rgV 0 (ridgesM u : Nat))) := ⟨_, rfl⟩
    refine ⟨a, rfl, ⟨_, nw_sub.seq hs⟩, ?_⟩
    obtain ⟨Pv, hPv⟩ : ∃ Pv : List PyData → List V → L2.St → Hp → Prop, ∀ r ys σ H3, Pv r ys σ H3 ↔ ∃ (os : List (List Nat)) (done rest : List (List Pull)) (x : Option V), r = os.map dOrd ∧ σ = [some (.ref p), x] ∧ Same H2 H3 ∧ DpAll K (nw H H3) ys (done.map dRow) ∧ os.mapM (rowM u (ridgesM u)) = some rest ∧ done ++ rest = rows ∧ (∀ o ∈ os, o ∈ ordersM (ridgesM u)) ∧ ys.length + os.length ≤ 120 := ⟨_, fun _ _ _ _ => Iff.rfl⟩
    refine gfor_listD (F := nw _ H2) hs hd Pv (fun r ys σ H3 h => ?_) ((hPv _ _ _ _).mpr ⟨ordersM (ridgesM u), [], rows, none, rfl, rfl, Same.refl _, .nil, hrows, rfl, fun _ h => h, by simpa using hol⟩) ?_ ?_
    · obtain ⟨_, _, _, _, _, _, e3, _⟩ := (hPv _ _ _ _).mp h
      exact nw_sub.trans e3
    · intro d r ys v σ H3 hP hv
      obtain ⟨os, done, rest, x, hos, rfl, e3, hd3, hm, hrw, hall, hlen⟩ := (hPv _ _ _ _).mp hP
      cases os with
      | nil => cases hos
      | cons o os =>
        obtain ⟨rfl, rfl⟩ := List.cons.inj hos
        obtain ⟨a4, xs4, rfl, hs4, hd4⟩ := dp_tupI hv
        have := ints_dpA _ hd4
        subst this
        obtain ⟨hlo, hpo⟩ := hop o (hall o (by simp))
        rw [List.mapM_cons] at hm
        cases hrow : rowM u (ridgesM u) o with
        | none => simp [hrow] at hm
        | some row =>
          cases hrest : os.mapM (rowM u (ridgesM u)) with
          | none => simp [hrow, hrest] at hm
          | some rest' =>
            simp [hrow, hrest] at hm
            subst hm
            simp at hlen
            simp [tSeq, tIfS, tOr, tAnd, tNot, tB, tCB, tCons, tNil, tVar, tC, tTest, tChain, rI0, rI, tOp, tUn, rU, tRet, tRetN, tNext, rNe, rEq, tAug, tAsg, gName, ipI, tDrop, tIf, tFld, tM1, tTup, tLst, tSl, tPart, rSlS, rIxS, tCall, tMeth, tProp, tMake, gTup, gCons, gNil, tPar, rAppend, tyV, tThen, tNotN, tIsN, tNotV, tRg1, tLstRg, scal, flds_word, gSub, tBM, S_len, S_app, S_count, S_take, S_drop, S_cut, S_rep, lit_d, lit_o, lit_do, lit_od, lit_e, L2.start, wipe, and_assoc, tAndV, tOrV, tNoPart, Int.ofNat_inj, tGThen, tG0, tGYield]
            refine ⟨big' (by omega), p, a4, u, o, row, rfl, ⟨dx, (eA.trans e3) _ _ hp⟩, hl, .inr (seqT_same (nw_sub.trans e3) hs4), by omega, by rw [hlo]; exact List.isPerm_iff.mp hpo, by rw [hlo]; exact hrow, fun H4 v e4 hv4 => ?_⟩
            refine (hPv _ _ _ _).mpr ⟨os, done ++ [row], rest', _, rfl, rfl, e3.trans e4, ?_, hrest, by rw [← hrw]; simp, fun o' h' => hall o' (by simp [h']), by simp; omega⟩
            rw [List.map_append]
            refine dpA_app (DpAll.same hd3 ?_) (.cons (Dp.same hv4 ((nw_nwx (X := []) (SX.of (eA.trans e3)) (by simp)).trans nwx_nw)) .nil)
            exact (fun b o' h' => by
              obtain ⟨g1, g2⟩ := nw_of h'
              rw [nw_at g1]
              exact e4 _ _ g2)
    · intro ys σ H3 hP
      obtain ⟨os, done, rest, x, hos, rfl, e3, hd3, hm, hrw, hall, hlen⟩ := (hPv _ _ _ _).mp hP
      cases os with
      | cons o os => cases hos
      | nil =>
        simp at hm
        subst hm
        rw [List.append_nil] at hrw
        subst hrw
        exact k _ _ (eA.trans e3) hd3
end
end K12
set_option Elab.async false
set_option linter.all false
set_option maxRecDepth 100000
set_option maxHeartbeats 4000000
namespace K12
open PySem PySem.Spec PyProof.Rows L2 K12M
abbrev s_l_mix : Stmt := top 22
theorem sc_l_mix : FnScope ["_law_number", "_law_turn", "_law_once", "_law_twice"] ["_law_number", "_law_turn"] (defScope s_l_mix) := ⟨rfl, rfl, rfl, by decide +kernel, rfl, by decide +kernel, by decide +kernel⟩
abbrev s_l_hand : Stmt := top 23
theorem sc_l_hand : FnScope ["_law_script", "_law_total", "_law_k", "_law_cell"] ["_law_script"] (defScope s_l_hand) := ⟨rfl, rfl, rfl, by decide +kernel, rfl, by decide +kernel, by decide +kernel⟩
abbrev s_l_draw : Stmt := top 24
theorem sc_l_draw : FnScope ["_law_hand_here", "_law_many", "_law_cell", "_law_rest"] ["_law_hand_here", "_law_many"] (defScope s_l_draw) := ⟨rfl, rfl, rfl, by decide +kernel, rfl, by decide +kernel, by decide +kernel⟩
abbrev s_l_word : Stmt := top 25
theorem sc_l_word : FnScope ["_law_hand_here", "_law_size", "_law_word_here", "_law_height", "_law_t", "_law_may_out", "_law_may_down"] ["_law_hand_here", "_law_size"] (defScope s_l_word) := ⟨rfl, rfl, rfl, by decide +kernel, rfl, by decide +kernel, by decide +kernel⟩
abbrev s_l_heights : Stmt := top 26
theorem sc_l_heights : FnScope ["_law_word_here", "_law_heights_here", "_law_letter"] ["_law_word_here"] (defScope s_l_heights) := ⟨rfl, rfl, rfl, by decide +kernel, rfl, by decide +kernel, by decide +kernel⟩
abbrev s_l_all_words : Stmt := top 27
theorem sc_l_all_words : FnScope ["_law_size", "_law_words", "_law_t", "_law_longer", "_law_word_here"] ["_law_size"] (defScope s_l_all_words) := ⟨rfl, rfl, rfl, by decide +kernel, rfl, by decide +kernel, by decide +kernel⟩
section
variable {P : Program} {w : World} {K : PySem.W.Frag} {mg : Str → Option Value} {base : Heap} {C : Addr}
/-! ### _law_mix -/
def spMix : Sp := fun vs H Q _ => ∃ a b : Int, vs = [.int a, .int b] ∧ (0 ≤ a ∧ a < 2 ^ 31) ∧ (0 ≤ b ∧ b < 2 ^ 31) ∧ ∀ H' m, Same H H' → Q (.int m) H'
theorem cl_mix (T : Txt K mg C) (D : Df K mg "_law_mix" s_l_mix ["_law_number", "_law_turn"]) : Cl P w K mg base 1 "_law_mix" ["_law_number", "_law_turn"] spMix := by
  refine D.cl fun f fd F => F.ok sc_l_mix (fun vs H Q E h => ?_) (fun cdv A outer s H vs Q E hr h => ?_)
  · obtain ⟨a, b, rfl, _⟩ := h
    rfl
  · obtain ⟨a, b, rfl, ha, hb, k⟩ := h
    refine ⟨_, (pss_cons (ps_set (i := 2) sc_l_mix.nd rfl (.inl rfl) (pe_op op_mod (pe_callTy call_int1 (by rfl) T.int_ (by decide +kernel) (pa_cons (pe_op op_add (pe_op op_add (pe_op op_mul (pv 0) pe_int) (pe_op op_mul (pv 1) pe_int)) pe_int) pa_nil)) pe_int))
      (pss_cons (ps_set (i := 3) sc_l_mix.nd rfl (.inl rfl) (pe_op op_mod (pe_callTy call_int1 (by rfl) T.int_ (by decide +kernel) (pa_cons (pe_op op_add (pe_op op_add (pe_op op_mul (pv 2) (pv 2)) (pe_op op_mul (pe_op op_fdiv (pv 2) pe_int) pe_int)) (pe_op op_mul (pv 1) pe_int)) pa_nil)) pe_int))
      (pss_one (ps_ret (pe_op op_fdiv (pe_op op_mod (pe_callTy call_int1 (by rfl) T.int_ (by decide +kernel) (pa_cons (pe_op op_add (pe_op op_fdiv (pe_op op_mul (pv 3) (pv 3)) pe_int) (pv 2)) pa_nil)) pe_int) pe_int))))), ?_⟩
    simp [tSeq, tIfS, tOr, tAnd, tNot, tB, tCB, tCons, tNil, tVar, tC, tTest, tChain, rI0, rI, tOp, tUn, rU, tRet, tRetN, tNext, rNe, rEq, tAug, tAsg, gName, ipI, tDrop, tIf, tFld, tM1, tTup, tLst, tSl, tPart, rSlS, rIxS, tCall, tMeth, tProp, tMake, gTup, gCons, gNil, tPar, rAppend, tyV, tThen, tNotN, tIsN, tNotV, tRg1, tLstRg, scal, flds_word, gSub, tBM, S_len, S_app, S_count, S_take, S_drop, S_cut, S_rep, lit_d, lit_o, lit_do, lit_od, lit_e, L2.start, wipe, and_assoc, tAndV, tOrV, tNoPart, Int.ofNat_inj]
    have m1 : ∀ x : Int, -(2 ^ 64) < x % 2147483647 ∧ x % 2147483647 < 2 ^ 64 := fun x => by omega
    have m2 : ∀ x : Int, -(2 ^ 64) < x % 2147483399 ∧ x % 2147483399 < 2 ^ 64 := fun x => by omega
    exact ⟨.inr (by decide), .inr (by decide), .inr (m1 _), ⟨by decide, by decide⟩, .inr (by decide), .inr (by decide), .inr (m2 _), ⟨by decide, by decide⟩, ⟨by decide, by decide⟩, k _ _ (Same.refl _)⟩
/-! ### _law_hand -/
def HandAt (H : Hp) (h : Addr) : Prop := ∃ (c : Addr) (cells : List Int) (i r t : Int), H h = some (.lst [.ref c, .int i, .int r, .int t]) ∧ H c = some (.lst (cells.map V.int)) ∧ (∀ x ∈ cells, 0 ≤ x) ∧ cells.length ≤ 63 ∧ 0 ≤ i ∧ i ≤ cells.length ∧ 0 ≤ r ∧ 0 ≤ t ∧ t < 2147483629
def spHand (K : PySem.W.Frag) : Sp := fun vs H Q _ => ∃ (a : Addr) (ns : List Int), vs = [.ref a] ∧ SqL K H a (ns.map V.int) ∧ ns.length ≤ 63 ∧ ∀ H' h, Same H H' → HandAt H' h → H h = none → Q (.ref h) H'
theorem cl_hand (T : Txt K mg C) (D : Df K mg "_law_hand" s_l_hand ["_law_script"]) : Cl P w K mg base 1 "_law_hand" ["_law_script"] (spHand K) := by
  refine D.cl fun f fd F => F.ok sc_l_hand (fun vs H Q E h => ?_) (fun cdv A outer s H vs Q E hr h => ?_)
  · obtain ⟨a, ns, rfl, _⟩ := h
    rfl
  · obtain ⟨a, ns, rfl, hs, hl, k⟩ := h
    refine ⟨_, (pss_cons (ps_set (i := 1) sc_l_hand.nd rfl (.inl rfl) pe_int)
      (pss_cons (ps_for PassesOwn.never rfl (pi_enum (by rfl) T.enumerate_ (pa_cons (pv 0) pa_nil)) (pg_tup (n := 2) rfl (pgs_cons (pg_name (i := 2) sc_l_hand.nd rfl (.inl rfl)) (pgs_cons (pg_name (i := 3) sc_l_hand.nd rfl (.inl rfl)) pgs_nil))) (pss_one (ps_set (i := 1) sc_l_hand.nd rfl (.inl rfl) (pe_op op_mod (pe_callTy call_int1 (by rfl) T.int_ (by decide +kernel) (pa_cons (pe_op op_add (pe_op op_mul (pv 1) pe_int) (pe_op op_mul (pe_callTy call_int1 (by rfl) T.int_ (by decide +kernel) (pa_cons (pv 3) pa_nil)) (pe_op op_add (pv 2) pe_int))) pa_nil)) pe_int))))
      (pss_one (ps_ret (pe_lst (pa_cons (pe_lc (own := [("_law_cell", 3)]) (by rfl) sc_l_hand.nd (pi_list (pv 0)) (blkOk_by (N := ["_law_script", "_law_total", "_law_k", "_law_cell"]) (sc := defScope s_l_hand) (own := [("_law_cell", 3)]) (by decide +kernel)) (fun _ _ _ _ _ => pg_name (i := 3) sc_l_hand.nd rfl (.inl rfl)) (fun _ _ _ _ _ => pts_nil) (fun _ _ _ _ _ => (pe_callB call_abs (by rfl) T.abs_ (by decide +kernel) (pa_cons (pe_callTy call_int1 (by rfl) T.int_ (by decide +kernel) (pa_cons (pv 3) pa_nil)) pa_nil)))) (pa_cons pe_int (pa_cons pe_int (pa_cons (pv 1) pa_nil))))))))), ?_⟩
    simp [tSeq, tIfS, tOr, tAnd, tNot, tB, tCB, tCons, tNil, tVar, tC, tTest, tChain, rI0, rI, tOp, tUn, rU, tRet, tRetN, tNext, rNe, rEq, tAug, tAsg, gName, ipI, tDrop, tIf, tFld, tM1, tTup, tLst, tSl, tPart, rSlS, rIxS, tCall, tMeth, tProp, tMake, gTup, gCons, gNil, tPar, rAppend, tyV, tThen, tNotN, tIsN, tNotV, tRg1, tLstRg, scal, flds_word, gSub, tBM, S_len, S_app, S_count, S_take, S_drop, S_cut, S_rep, lit_d, lit_o, lit_do, lit_od, lit_e, L2.start, wipe, and_assoc, tAndV, tOrV, tNoPart, Int.ofNat_inj]
    refine ⟨_, rfl, a, ns.map V.int, rfl, hs, fun i m σ H1 => m = ns.length - i ∧ i ≤ ns.length ∧ ∃ (t : Int) (x y : Option V), σ = [some (.ref a), some (.int t), x, y] ∧ 0 ≤ t ∧ t < 2147483629 ∧ Same H H1, ⟨ns.length, by simp, Nat.zero_le _, 0, none, none, rfl, by decide, by decide, Same.refl _⟩, ?_⟩
    rintro i m σ H1 ⟨rfl, hi, t, x, y, rfl, ht0, ht1, e1⟩
    by_cases hlt : i < ns.length
    · have g1 : (ns.map V.int)[i]? = some (.int ns[i]) := by rw [List.getElem?_map, List.getElem?_eq_getElem hlt]; rfl
      refine .inr ⟨⟨_, _, e1.seq hs, g1⟩, fun σ' H' => ∃ (t : Int) (x y : Option V), σ' = [some (.ref a), some (.int t), x, y] ∧ 0 ≤ t ∧ t < 2147483629 ∧ Same H H', fun σ' H' h' => ⟨ns.length - (i + 1), by omega, rfl, hlt, h'⟩, ?_⟩
      rintro v H' ⟨T', x', rfl, hT, rfl, hx⟩
      have hx := hx _ (e1.seq hs)
      rw [g1] at hx
      cases hx
      refine ⟨T', _, rfl, sqT_of upd_same, rfl, _, _, rfl, _, _, rfl, rfl, ?_⟩
      simp [tSeq, tIfS, tOr, tAnd, tNot, tB, tCB, tCons, tNil, tVar, tC, tTest, tChain, rI0, rI, tOp, tUn, rU, tRet, tRetN, tNext, rNe, rEq, tAug, tAsg, gName, ipI, tDrop, tIf, tFld, tM1, tTup, tLst, tSl, tPart, rSlS, rIxS, tCall, tMeth, tProp, tMake, gTup, gCons, gNil, tPar, rAppend, tyV, tThen, tNotN, tIsN, tNotV, tRg1, tLstRg, scal, flds_word, gSub, tBM, S_len, S_app, S_count, S_take, S_drop, S_cut, S_rep, lit_d, lit_o, lit_do, lit_od, lit_e, L2.start, wipe, and_assoc, tAndV, tOrV, tNoPart, Int.ofNat_inj]
      exact ⟨.inr (by decide), .inr (by omega), Int.emod_nonneg _ (by decide), Int.emod_lt_of_pos _ (by decide), e1.trans (same_new hT)⟩
    · have e : i = ns.length := by omega
      subst e
      refine .inl ⟨⟨_, e1.seq hs, by simp⟩, ?_⟩
      simp [tSeq, tIfS, tOr, tAnd, tNot, tB, tCB, tCons, tNil, tVar, tC, tTest, tChain, rI0, rI, tOp, tUn, rU, tRet, tRetN, tNext, rNe, rEq, tAug, tAsg, gName, ipI, tDrop, tIf, tFld, tM1, tTup, tLst, tSl, tPart, rSlS, rIxS, tCall, tMeth, tProp, tMake, gTup, gCons, gNil, tPar, rAppend, tyV, tThen, tNotN, tIsN, tNotV, tRg1, tLstRg, scal, flds_word, gSub, tBM, S_len, S_app, S_count, S_take, S_drop, S_cut, S_rep, lit_d, lit_o, lit_do, lit_od, lit_e, L2.start, wipe, and_assoc, tAndV, tOrV, tNoPart, Int.ofNat_inj]
      refine ⟨_, rfl, a, rfl, ⟨_, e1.seq hs⟩, fun D hD => lc_listR (F := H) hs (dpA_ints _) (fun r acc H2 => Same H1 H2 ∧ ∃ (cs rs : List Int), r = rs.map PyData.int ∧ acc = cs.map V.int ∧ (∀ x ∈ cs, 0 ≤ x) ∧ cs.length + rs.length = ns.length) (fun r acc H2 h => e1.trans h.1) ⟨same_new hD, [], ns, rfl, rfl, by simp, by simp⟩ ?_ ?_⟩
      · rintro d r acc v H2 hD2 ⟨e2, cs, rs, hr2, rfl, hcs, hlen⟩ hv
        cases rs with
        | nil => cases hr2
        | cons n rs =>
          obtain ⟨rfl, rfl⟩ := List.cons.inj hr2
          cases dp_intI hv
          simp at hlen
          simp [LcTurn, LcN, tSeq, tIfS, tOr, tAnd, tNot, tB, tCB, tCons, tNil, tVar, tC, tTest, tChain, rI0, rI, tOp, tUn, rU, tRet, tRetN, tNext, rNe, rEq, tAug, tAsg, gName, ipI, tDrop, tIf, tFld, tM1, tTup, tLst, tSl, tPart, rSlS, rIxS, tCall, tMeth, tProp, tMake, gTup, gCons, gNil, tPar, rAppend, tyV, tThen, tNotN, tIsN, tNotV, tRg1, tLstRg, scal, flds_word, gSub, tBM, S_len, S_app, S_count, S_take, S_drop, S_cut, S_rep, lit_d, lit_o, lit_do, lit_od, lit_e, L2.start, wipe, and_assoc, tAndV, tOrV, tNoPart, Int.ofNat_inj, hD2, tYes]
          refine ⟨big' (by omega), _, upd_same, same_mut e2 hD, cs ++ [if n < 0 then -n else n], rs, rfl, by simp, ?_, by simp; omega⟩
          intro x hx
          simp at hx
          rcases hx with hx | hx
          · exact hcs x hx
          · rw [hx]
            split <;> omega
      · rintro acc H2 hD2 ⟨e2, cs, rs, hr2, rfl, hcs, hlen⟩
        cases rs with
        | cons n rs => cases hr2
        | nil =>
          simp at hlen
          refine ⟨small (by decide), fun q hq => k _ q ((e1.trans e2).trans (same_new hq)) ⟨D, cs, 0, 0, t, upd_same, some_new hD2 hq, hcs, by omega, by omega, by omega, by omega, ht0, ht1⟩ (none_back (e1.trans e2) hq)⟩
/-! ### _law_draw -/
def spDraw : Sp := fun vs H Q _ => ∃ (h : Addr) (m : Int), vs = [.ref h, .int m] ∧ HandAt H h ∧ 1 ≤ m ∧ m ≤ 1000 ∧ ∀ H' (j : Nat), SX [h] H H' → HandAt H' h → (j : Int) < m → Q (.int j) H'
theorem cl_draw (T : Txt K mg C) (cmix : Cl P w K mg base 1 "_law_mix" ["_law_number", "_law_turn"] spMix) (D : Df K mg "_law_draw" s_l_draw ["_law_hand_here", "_law_many"]) : Cl P w K mg base 2 "_law_draw" ["_law_hand_here", "_law_many"] spDraw := by
  obtain ⟨f__law_mix, fd__law_mix, F__law_mix, g__law_mix, k__law_mix, b__law_mix⟩ := cmix
  refine D.cl fun f fd F => F.ok sc_l_draw (fun vs H Q E h => ?_) (fun cdv A outer s H vs Q E hr h => ?_)
  · obtain ⟨h, m, rfl, _⟩ := h
    rfl
  · obtain ⟨h, m, rfl, hh, hm1, hm2, k⟩ := h
    obtain ⟨c, cells, i, r, t, hh0, hc0, hcp, hcl, hi0, hi1, hr0', ht0, ht1⟩ := hh
    have hch : c ≠ h := fun e => by
      rw [e, hh0] at hc0
      injection hc0 with hc0
      injection hc0 with hc0
      cases cells with
      | nil => cases hc0
      | cons x cells => cases hc0
    have fin : ∀ H' x, SX [h] H H' → HandAt H' h → Q (.int (x % m)) H' := fun H' x e hH => by
      obtain ⟨j, hj⟩ := Int.eq_ofNat_of_zero_le (Int.emod_nonneg x (show m ≠ 0 by omega))
      have := Int.emod_lt_of_pos x (show 0 < m by omega)
      rw [hj] at this ⊢
      exact k _ _ e hH this
    refine ⟨_, (pss_cons (ps_if (PW.pt (pw_and (pt_cmpR op_eq (pe_ix ix_list (pv 0) pe_int (fun _ _ => rfl)) pe_int (nomark _)) (pw_and1 (pt_cmpR op_lt (pe_ix ix_list (pv 0) pe_int (fun _ _ => rfl)) (pe_callB call_len_seq (by rfl) T.len_ PySem.boot_len (pa_cons (pe_ix ix_list (pv 0) pe_int (fun _ _ => rfl)) pa_nil)) (nomark _))))) (pss_cons (ps_set (i := 2) sc_l_draw.nd rfl (.inl rfl) (pe_ix ix_list (pe_ix ix_list (pv 0) pe_int (fun _ _ => rfl)) (pe_ix ix_list (pv 0) pe_int (fun _ _ => rfl)) (fun _ _ => rfl)))
      (pss_cons (ps_asg (pe_op op_add (pe_ix ix_list (pv 0) pe_int (fun _ _ => rfl)) pe_int) (pg_sub (pv 0) pe_int set_list))
      (pss_cons (ps_if (pt_cmpR op_lt (pv 2) (pe_op op_pow pe_int pe_int) (nomark _)) (pss_one (ps_ret (pe_op op_mod (pe_callTy call_int1 (by rfl) T.int_ (by decide +kernel) (pa_cons (pe_call F__law_mix (hr.mono (by decide)) (by rfl) g__law_mix k__law_mix b__law_mix .nil pass0 (pa_cons (pe_op op_mod (pe_callTy call_int1 (by rfl) T.int_ (by decide +kernel) (pa_cons (pv 2) pa_nil)) pe_int) (pa_cons (pe_ix ix_list (pv 0) pe_int (fun _ _ => rfl)) pa_nil))) pa_nil)) (pv 1)))) pss_nil)
      (pss_one (ps_asg (pv 2) (pg_sub (pv 0) pe_int set_list)))))) pss_nil)
      (pss_cons (ps_if (pt_cmpR op_gt (pe_ix ix_list (pv 0) pe_int (fun _ _ => rfl)) pe_int (nomark _)) (pss_cons (ps_set (i := 3) sc_l_draw.nd rfl (.inl rfl) (pe_ix ix_list (pv 0) pe_int (fun _ _ => rfl)))
      (pss_cons (ps_asg (pe_op op_fdiv (pv 3) (pv 1)) (pg_sub (pv 0) pe_int set_list))
      (pss_one (ps_ret (pe_op op_mod (pe_callTy call_int1 (by rfl) T.int_ (by decide +kernel) (pa_cons (pv 3) pa_nil)) (pv 1)))))) pss_nil)
      (pss_cons (ps_asg (pe_op op_mod (pe_callTy call_int1 (by rfl) T.int_ (by decide +kernel) (pa_cons (pe_op op_add (pe_ix ix_list (pv 0) pe_int (fun _ _ => rfl)) pe_int) pa_nil)) pe_int) (pg_sub (pv 0) pe_int set_list))
      (pss_one (ps_ret (pe_op op_mod (pe_callTy call_int1 (by rfl) T.int_ (by decide +kernel) (pa_cons (pe_call F__law_mix (hr.mono (by decide)) (by rfl) g__law_mix k__law_mix b__law_mix .nil pass0 (pa_cons (pe_ix ix_list (pv 0) pe_int (fun _ _ => rfl)) (pa_cons (pe_ix ix_list (pv 0) pe_int (fun _ _ => rfl)) pa_nil))) pa_nil)) (pv 1))))))), ?_⟩
    simp [tSeq, tIfS, tOr, tAnd, tNot, tB, tCB, tCons, tNil, tVar, tC, tTest, tChain, rI0, rI, tOp, tUn, rU, tRet, tRetN, tNext, rNe, rEq, tAug, tAsg, gName, ipI, tDrop, tIf, tFld, tM1, tTup, tLst, tSl, tPart, rSlS, rIxS, tCall, tMeth, tProp, tMake, gTup, gCons, gNil, tPar, rAppend, tyV, tThen, tNotN, tIsN, tNotV, tRg1, tLstRg, scal, flds_word, gSub, tBM, S_len, S_app, S_count, S_take, S_drop, S_cut, S_rep, lit_d, lit_o, lit_do, lit_od, lit_e, L2.start, wipe, and_assoc, tAndV, tOrV, tNoPart, Int.ofNat_inj]
    refine rIxL_i (sqL_of hh0) (show atI _ _ = some (.int r) from rfl) ⟨rfl, ?_⟩
    by_cases hz : r = 0
    · rw [if_pos (by rw [hz])]
      refine rIxL_i (sqL_of hh0) (show atI _ _ = some (.int i) from rfl) (rIxL_i (sqL_of hh0) (show atI _ _ = some (.ref c) from rfl) ⟨c, rfl, _, .inl (sqL_of hc0), i, rfl, ?_⟩)
      by_cases hil : i < cells.length
      · rw [if_pos (by simpa using hil)]
        obtain ⟨ii, rfl⟩ := Int.eq_ofNat_of_zero_le hi0
        have hii : ii < cells.length := by omega
        have hcell : (cells.map V.int)[ii]? = some (.int cells[ii]) := by rw [List.getElem?_map, List.getElem?_eq_getElem hii]; rfl
        have hx0 := hcp cells[ii] (List.getElem_mem hii)
        generalize cells[ii] = x at hcell hx0
        refine rIxL_i (sqL_of hh0) (show atI _ _ = some (.ref c) from rfl) (rIxL_i (sqL_of hh0) (show atI _ _ = some (.int ii) from rfl) (rIxL_i (sqL_of hc0) (at_lt hcell) (rIxL_i (sqL_of hh0) (show atI _ _ = some (.int ii) from rfl) ⟨_, rfl, h, _, 1, 1, rfl, rfl, hh0, rfl, ⟨by decide, by decide, by decide⟩, x, rfl, ?_⟩)))
        have e1 : SX [h] H (upd H h (.lst [.ref c, .int ((ii : Int) + 1), .int r, .int t])) := SX.rfl'.put (by simp)
        by_cases hx : x < 1000000000000000000
        · rw [if_pos hx]
          refine .inl ⟨x, rfl, rIxL_i (sqL_of upd_same) (show atI _ _ = some (.int ((ii : Int) + 1)) from rfl) ⟨_, _, rfl, by omega, by omega, fun H5 mm e5 => .inl ⟨mm, rfl, by omega, fin _ _ (e1.trans (SX.of e5)) ⟨c, cells, _, _, _, e5 _ _ upd_same, e5 _ _ (by rw [upd_ne hch]; exact hc0), hcp, hcl, by omega, by omega, hr0', ht0, ht1⟩⟩⟩⟩
        · rw [if_neg hx]
          refine ⟨h, _, 2, 2, rfl, rfl, upd_same, rfl, ?_⟩
          have e2 : SX [h] H (upd (upd H h (.lst [.ref c, .int ((ii : Int) + 1), .int r, .int t])) h (.lst [.ref c, .int ((ii : Int) + 1), .int x, .int t])) := e1.put (by simp)
          have hH2 : upd (upd H h (.lst [.ref c, .int ((ii : Int) + 1), .int r, .int t])) h (.lst [.ref c, .int ((ii : Int) + 1), .int x, .int t]) h = some (.lst [.ref c, .int ((ii : Int) + 1), .int x, .int t]) := upd_same
          have hC2 : upd (upd H h (.lst [.ref c, .int ((ii : Int) + 1), .int r, .int t])) h (.lst [.ref c, .int ((ii : Int) + 1), .int x, .int t]) c = some (.lst (cells.map V.int)) := by rw [upd_ne hch, upd_ne hch]; exact hc0
          show rIxL K (.ref h) (.int 2) (upd (upd H h (.lst [.ref c, .int ((ii : Int) + 1), .int r, .int t])) h (.lst [.ref c, .int ((ii : Int) + 1), .int x, .int t])) _
          refine rIxL_i (sqL_of hH2) (show atI _ _ = some (.int x) from rfl) ⟨x, rfl, ?_⟩
          by_cases hr0 : 0 < x
          · rw [if_pos hr0]
            refine rIxL_i (sqL_of hH2) (show atI _ _ = some (.int x) from rfl) ⟨x, rfl, ⟨by omega, by omega⟩, h, _, 2, 2, rfl, rfl, hH2, rfl, .inl ⟨x, rfl, by omega, fin _ _ (e2.put (by simp)) ⟨c, cells, (ii : Int) + 1, x / m, t, upd_same, by rw [upd_ne hch]; exact hC2, hcp, hcl, by omega, by omega, Int.ediv_nonneg (by omega) (by omega), ht0, ht1⟩⟩⟩
          · rw [if_neg hr0]
            have tb : 0 ≤ (t + 1) % 2147483629 ∧ (t + 1) % 2147483629 < 2147483629 := by omega
            obtain ⟨t2, ht2⟩ : ∃ t2, t2 = (t + 1) % 2147483629 := ⟨_, rfl⟩
            rw [← ht2] at tb
            refine rIxL_i (sqL_of hH2) (show atI _ _ = some (.int t) from rfl) ⟨t, rfl, h, _, 3, 3, rfl, rfl, hH2, rfl, ?_⟩
            rw [← ht2]
            refine rIxL_i (sqL_of upd_same) (show atI _ _ = some (.int t2) from rfl) (rIxL_i (sqL_of upd_same) (show atI _ _ = some (.int ((ii : Int) + 1)) from rfl) ⟨t2, (ii : Int) + 1, rfl, by omega, by omega, fun H5 mm e5 => .inl ⟨mm, rfl, by omega, ?_⟩⟩)
            refine fin _ _ ((e2.put (by simp)).trans (SX.of e5)) ⟨c, cells, (ii : Int) + 1, x, t2, e5 _ _ upd_same, e5 _ _ (by rw [upd_ne hch]; exact hC2), hcp, hcl, by omega, by omega, by omega, tb.1, tb.2⟩
      · rw [if_neg (by simpa using hil)]
        refine rIxL_i (sqL_of hh0) (show atI _ _ = some (.int r) from rfl) ⟨r, rfl, ?_⟩
        by_cases hr0 : 0 < r
        · rw [if_pos hr0]
          refine rIxL_i (sqL_of hh0) (show atI _ _ = some (.int r) from rfl) ⟨r, rfl, ⟨by omega, by omega⟩, h, _, 2, 2, rfl, rfl, hh0, rfl, .inl ⟨r, rfl, by omega, fin _ _ ((SX.rfl' : SX [h] H H).put (by simp)) ⟨c, cells, i, r / m, t, upd_same, by rw [upd_ne hch]; exact hc0, hcp, hcl, by omega, by omega, Int.ediv_nonneg (by omega) (by omega), ht0, ht1⟩⟩⟩
        · rw [if_neg hr0]
          have tb : 0 ≤ (t + 1) % 2147483629 ∧ (t + 1) % 2147483629 < 2147483629 := by omega
          obtain ⟨t2, ht2⟩ : ∃ t2, t2 = (t + 1) % 2147483629 := ⟨_, rfl⟩
          rw [← ht2] at tb
          refine rIxL_i (sqL_of hh0) (show atI _ _ = some (.int t) from rfl) ⟨t, rfl, h, _, 3, 3, rfl, rfl, hh0, rfl, ?_⟩
          rw [← ht2]
          refine rIxL_i (sqL_of upd_same) (show atI _ _ = some (.int t2) from rfl) (rIxL_i (sqL_of upd_same) (show atI _ _ = some (.int i) from rfl) ⟨t2, i, rfl, by omega, by omega, fun H5 mm e5 => .inl ⟨mm, rfl, by omega, ?_⟩⟩)
          refine fin _ _ (((SX.rfl' : SX [h] H H).put (by simp)).trans (SX.of e5)) ⟨c, cells, i, r, t2, e5 _ _ upd_same, e5 _ _ (by rw [upd_ne hch]; exact hc0), hcp, hcl, by omega, by omega, by omega, tb.1, tb.2⟩
    · rw [if_neg (fun e => hz (V.int.inj e))]
      refine rIxL_i (sqL_of hh0) (show atI _ _ = some (.int r) from rfl) ⟨r, rfl, ?_⟩
      by_cases hr0 : 0 < r
      · rw [if_pos hr0]
        refine rIxL_i (sqL_of hh0) (show atI _ _ = some (.int r) from rfl) ⟨r, rfl, ⟨by omega, by omega⟩, h, _, 2, 2, rfl, rfl, hh0, rfl, .inl ⟨r, rfl, by omega, fin _ _ ((SX.rfl' : SX [h] H H).put (by simp)) ⟨c, cells, i, r / m, t, upd_same, by rw [upd_ne hch]; exact hc0, hcp, hcl, by omega, by omega, Int.ediv_nonneg (by omega) (by omega), ht0, ht1⟩⟩⟩
      · rw [if_neg hr0]
        have tb : 0 ≤ (t + 1) % 2147483629 ∧ (t + 1) % 2147483629 < 2147483629 := by omega
        obtain ⟨t2, ht2⟩ : ∃ t2, t2 = (t + 1) % 2147483629 := ⟨_, rfl⟩
        rw [← ht2] at tb
        refine rIxL_i (sqL_of hh0) (show atI _ _ = some (.int t) from rfl) ⟨t, rfl, h, _, 3, 3, rfl, rfl, hh0, rfl, ?_⟩
        rw [← ht2]
        refine rIxL_i (sqL_of upd_same) (show atI _ _ = some (.int t2) from rfl) (rIxL_i (sqL_of upd_same) (show atI _ _ = some (.int i) from rfl) ⟨t2, i, rfl, by omega, by omega, fun H5 mm e5 => .inl ⟨mm, rfl, by omega, ?_⟩⟩)
        refine fin _ _ (((SX.rfl' : SX [h] H H).put (by simp)).trans (SX.of e5)) ⟨c, cells, i, r, t2, e5 _ _ upd_same, e5 _ _ (by rw [upd_ne hch]; exact hc0), hcp, hcl, by omega, by omega, by omega, tb.1, tb.2⟩
/-! ### _law_word -/
def lstep (n : Nat) (ws : List Wd) : List Wd := ws.flatMap fun w => (if Nat.blt (w.count true) n then [w ++ [true]] else []) ++ (if Nat.blt (w.count false) (w.count true) then [w ++ [false]] else [])
theorem allGo_end (n : Nat) : ∀ (k : Nat) (ws : List Wd), allGo n ws (k + 1) = lstep n (allGo n ws k)
  | 0, ws => rfl
  | k + 1, ws => allGo_end n k (lstep n ws)
theorem lev_mem (n : Nat) : ∀ (k : Nat), ∀ w ∈ allGo n [[]] k, w.length = k ∧ w.count true ≤ n ∧ w.count false ≤ w.count true
  | 0, w, h => by
    have : w = [] := by simpa [allGo] using h
    subst this
    simp
  | k + 1, w, h => by
    rw [allGo_end] at h
    unfold lstep at h
    obtain ⟨v, hv, hw⟩ := List.mem_flatMap.mp h
    obtain ⟨h1, h2, h3⟩ := lev_mem n k v hv
    rcases List.mem_append.mp hw with hw | hw
    · split at hw
      · rename_i hb
        have hb := Nat.blt_eq.mp hb
        have : w = v ++ [true] := by simpa using hw
        subst this
        simp
        omega
      · cases hw
    · split at hw
      · rename_i hb
        have hb := Nat.blt_eq.mp hb
        have : w = v ++ [false] := by simpa using hw
        subst this
        simp
        omega
      · cases hw
theorem lev_d {n k : Nat} {w : Wd} (h : w ∈ allGo n [[]] k) (c : w.count true < n) : w ++ [true] ∈ allGo n [[]] (k + 1) := by
  rw [allGo_end]
  exact List.mem_flatMap.mpr ⟨w, h, List.mem_append_left _ (by rw [if_pos (Nat.blt_eq.mpr c)]; simp)⟩
theorem lev_o {n k : Nat} {w : Wd} (h : w ∈ allGo n [[]] k) (c : w.count false < w.count true) : w ++ [false] ∈ allGo n [[]] (k + 1) := by
  rw [allGo_end]
  exact List.mem_flatMap.mpr ⟨w, h, List.mem_append_right _ (by rw [if_pos (Nat.blt_eq.mpr c)]; simp)⟩
theorem cnt_len : ∀ w : Wd, w.count true + w.count false = w.length
  | [] => rfl
  | b :: w => by
    have := cnt_len w
    cases b <;> simp <;> omega
def spWord : Sp := fun vs H Q _ => ∃ (h : Addr) (n : Nat), vs = [.ref h, .int (n : Int)] ∧ HandAt H h ∧ n ≤ 6 ∧ ∀ H' u, SX [h] H H' → HandAt H' h → u ∈ allM n → Q (.str (S u)) H'
theorem cl_word (T : Txt K mg C) (cdraw : Cl P w K mg base 2 "_law_draw" ["_law_hand_here", "_law_many"] spDraw) (D : Df K mg "_law_word" s_l_word ["_law_hand_here", "_law_size"]) : Cl P w K mg base 3 "_law_word" ["_law_hand_here", "_law_size"] spWord := by
  obtain ⟨f__law_draw, fd__law_draw, F__law_draw, g__law_draw, k__law_draw, b__law_draw⟩ := cdraw
  refine D.cl fun f fd F => F.ok sc_l_word (fun vs H Q E h => ?_) (fun cdv A outer s H vs Q E hr h => ?_)
  · obtain ⟨h, n, rfl, _⟩ := h
    rfl
  · obtain ⟨h, n, rfl, hh, hn, k⟩ := h
    refine ⟨_, (pss_cons (ps_set (i := 2) sc_l_word.nd rfl (.inl rfl) pe_str)
      (pss_cons (ps_set (i := 3) sc_l_word.nd rfl (.inl rfl) pe_int)
      (pss_cons (ps_for PassesOwn.never rfl (pi_range1 (by rfl) T.range_ (pa_cons (pe_op op_mul pe_int (pv 1)) pa_nil)) (pg_name (i := 4) sc_l_word.nd rfl (.inl rfl)) (pss_cons (ps_set (i := 5) sc_l_word.nd rfl (.inl rfl) (pe_cmpR op_gt (pv 3) pe_int (nomark _)))
      (pss_cons (ps_set (i := 6) sc_l_word.nd rfl (.inl rfl) (pe_cmpR op_lt (pe_m1 PySem.F.slot_str_count PySem.F.type_str_count mt_count (pv 2) pe_str) (pv 1) (nomark _)))
      (pss_one (ps_if (PW.pt (pw_and (pt_val (pv 6)) (pw_and1 (PW.pt (pw_or (pt_not (pt_val (pv 5))) (pw_or1 (pt_cmpR op_eq (pe_call F__law_draw (hr.mono (by decide)) (by rfl) g__law_draw k__law_draw b__law_draw .nil pass0 (pa_cons (pv 0) (pa_cons pe_int pa_nil))) pe_int (nomark _)))))))) (pss_cons (ps_set (i := 2) sc_l_word.nd rfl (.inl rfl) (pe_op op_add_str (pv 2) pe_str))
      (pss_one (ps_set (i := 3) sc_l_word.nd rfl (.inl rfl) (pe_op op_add (pv 3) pe_int)))) (pss_cons (ps_set (i := 2) sc_l_word.nd rfl (.inl rfl) (pe_op op_add_str (pv 2) pe_str))
      (pss_one (ps_set (i := 3) sc_l_word.nd rfl (.inl rfl) (pe_op op_sub (pv 3) pe_int)))))))))
      (pss_one (ps_ret (pv 2)))))), ?_⟩
    simp [tSeq, tIfS, tOr, tAnd, tNot, tB, tCB, tCons, tNil, tVar, tC, tTest, tChain, rI0, rI, tOp, tUn, rU, tRet, tRetN, tNext, rNe, rEq, tAug, tAsg, gName, ipI, tDrop, tIf, tFld, tM1, tTup, tLst, tSl, tPart, rSlS, rIxS, tCall, tMeth, tProp, tMake, gTup, gCons, gNil, tPar, rAppend, tyV, tThen, tNotN, tIsN, tNotV, tRg1, tLstRg, scal, flds_word, gSub, tBM, S_len, S_app, S_count, S_take, S_drop, S_cut, S_rep, lit_d, lit_o, lit_do, lit_od, lit_e, L2.start, wipe, and_assoc, tAndV, tOrV, tNoPart, Int.ofNat_inj]
    obtain ⟨Pv, hPv⟩ : ∃ Pv : Nat → L2.St → Hp → Prop, ∀ i σ H2, Pv i σ H2 ↔ ∃ (u : Wd) (ht : Int) (x y z : Option V), σ = [some (.ref h), some (.int (n : Int)), some (.str (S u)), some (.int ht), x, y, z] ∧ ht = (u.count true : Int) - (u.count false : Int) ∧ u ∈ allGo n [[]] i ∧ SX [h] H H2 ∧ HandAt H2 h := ⟨_, fun _ _ _ => Iff.rfl⟩
    refine forJ (Itr 0 (2 * n)) _ (fun R r => ?_) (for_range (n := 2 * n) Pv ((hPv _ _ _).mpr ⟨[], 0, none, none, none, rfl, by simp, by simp [allGo], SX.rfl', hh⟩) ?_ ?_)
    · simp [tSeq, tIfS, tOr, tAnd, tNot, tB, tCB, tCons, tNil, tVar, tC, tTest, tChain, rI0, rI, tOp, tUn, rU, tRet, tRetN, tNext, rNe, rEq, tAug, tAsg, gName, ipI, tDrop, tIf, tFld, tM1, tTup, tLst, tSl, tPart, rSlS, rIxS, tCall, tMeth, tProp, tMake, gTup, gCons, gNil, tPar, rAppend, tyV, tThen, tNotN, tIsN, tNotV, tRg1, tLstRg, scal, flds_word, gSub, tBM, S_len, S_app, S_count, S_take, S_drop, S_cut, S_rep, lit_d, lit_o, lit_do, lit_od, lit_e, L2.start, wipe, and_assoc, tAndV, tOrV, tNoPart, Int.ofNat_inj, iRng1]
      exact ⟨by omega, by omega, by rw [show (2 * (n : Int)).toNat = 2 * n from by omega]; exact r⟩
    · intro i σ H2 hi hP
      obtain ⟨u, ht, x, y, z, rfl, hht, hu, e2, hH2⟩ := (hPv _ _ _).mp hP
      obtain ⟨l1, l2, l3⟩ := lev_mem n i u hu
      have l4 := cnt_len u
      have hz : u.length + 1 ≤ sizeLine := big (by omega)
      have hd : ∀ x' y' z' H3, SX [h] H2 H3 → HandAt H3 h → u.count true < n → Pv (i + 1) [some (V.ref h), some (V.int ↑n), some (V.str (S (u ++ [true]))), some (V.int (ht + 1)), x', y', z'] H3 := fun x' y' z' H3 e3 h3 c => (hPv _ _ _).mpr ⟨_, _, _, _, _, rfl, by simp; omega, lev_d hu c, e2.trans e3, h3⟩
      have ho : ∀ x' y' z' H3, SX [h] H2 H3 → HandAt H3 h → u.count false < u.count true → Pv (i + 1) [some (V.ref h), some (V.int ↑n), some (V.str (S (u ++ [false]))), some (V.int (ht - 1)), x', y', z'] H3 := fun x' y' z' H3 e3 h3 c => (hPv _ _ _).mpr ⟨_, _, _, _, _, rfl, by simp; omega, lev_o hu c, e2.trans e3, h3⟩
      simp [tSeq, tIfS, tOr, tAnd, tNot, tB, tCB, tCons, tNil, tVar, tC, tTest, tChain, rI0, rI, tOp, tUn, rU, tRet, tRetN, tNext, rNe, rEq, tAug, tAsg, gName, ipI, tDrop, tIf, tFld, tM1, tTup, tLst, tSl, tPart, rSlS, rIxS, tCall, tMeth, tProp, tMake, gTup, gCons, gNil, tPar, rAppend, tyV, tThen, tNotN, tIsN, tNotV, tRg1, tLstRg, scal, flds_word, gSub, tBM, S_len, S_app, S_count, S_take, S_drop, S_cut, S_rep, lit_d, lit_o, lit_do, lit_od, lit_e, L2.start, wipe, and_assoc, tAndV, tOrV, tNoPart, Int.ofNat_inj, hz]
      by_cases hc : u.count true < n
      · refine .inr ⟨hc, ?_⟩
        by_cases hp : ht ≤ 0
        · exact .inl ⟨hp, hd _ _ _ _ SX.rfl' hH2 hc⟩
        · refine .inr ⟨by omega, h, 2, rfl, hH2, by decide, by decide, fun H3 j e3 h3 hj => ⟨rfl, ?_⟩⟩
          by_cases hj0 : (V.int (j : Int)) = V.int 0
          · rw [if_pos hj0]
            exact hd _ _ _ _ e3 h3 hc
          · rw [if_neg hj0]
            exact ho _ _ _ _ e3 h3 (by omega)
      · exact .inl ⟨by omega, ho _ _ _ _ SX.rfl' hH2 (by omega)⟩
    · intro σ H2 hP
      obtain ⟨u, ht, x, y, z, rfl, hht, hu, e2, hH2⟩ := (hPv _ _ _).mp hP
      exact ⟨_, rfl, k _ _ e2 hH2 hu⟩
/-! ### _law_heights -/
def spLH (K : PySem.W.Frag) : Sp := fun vs H Q _ => ∃ u : Wd, vs = [.str (S u)] ∧ u.length ≤ 12 ∧ ∀ H' v, Same H H' → Dp K (nw H H') v (.list ((heightsM u).map PyData.int)) → Q v H'
theorem cl_lheights (T : Txt K mg C) (D : Df K mg "_law_heights" s_l_heights ["_law_word_here"]) : Cl P w K mg base 1 "_law_heights" ["_law_word_here"] (spLH K) := by
  refine D.cl fun f fd F => F.ok sc_l_heights (fun vs H Q E h => ?_) (fun cdv A outer s H vs Q E hr h => ?_)
  · obtain ⟨u, rfl, _⟩ := h
    rfl
  · obtain ⟨u, rfl, hl, k⟩ := h
    refine ⟨_, (pss_cons (ps_set (i := 1) sc_l_heights.nd rfl (.inl rfl) (pe_lst (pa_cons pe_int pa_nil)))
      (pss_cons (ps_for PassesOwn.never rfl (pi_str (pv 0)) (pg_name (i := 2) sc_l_heights.nd rfl (.inl rfl)) (pss_one (ps_expr (pe_bm PySem.F.plainAttrs_list PySem.F.slot_list_append PySem.F.type_list_append mt_append (pv 1) (pa_cons (pe_op op_add (pe_ix ix_list (pv 1) (pe_un un_neg pe_int) (fun _ _ => rfl)) (pe_ifExp (pt_cmpR op_eq (pv 2) pe_str (nomark _)) pe_int (pe_un un_neg pe_int))) pa_nil)))))
      (pss_one (ps_ret (pv 1))))), ?_⟩
    simp [tSeq, tIfS, tOr, tAnd, tNot, tB, tCB, tCons, tNil, tVar, tC, tTest, tChain, rI0, rI, tOp, tUn, rU, tRet, tRetN, tNext, rNe, rEq, tAug, tAsg, gName, ipI, tDrop, tIf, tFld, tM1, tTup, tLst, tSl, tPart, rSlS, rIxS, tCall, tMeth, tProp, tMake, gTup, gCons, gNil, tPar, rAppend, tyV, tThen, tNotN, tIsN, tNotV, tRg1, tLstRg, scal, flds_word, gSub, tBM, S_len, S_app, S_count, S_take, S_drop, S_cut, S_rep, lit_d, lit_o, lit_do, lit_od, lit_e, L2.start, wipe, and_assoc, tAndV, tOrV, tNoPart, Int.ofNat_inj]
    intro q hq
    refine ⟨_, rfl, _, rfl, for_word (w := u) (fun r σ H2 => ∃ (b : Option V) (hs : List Int) (h : Int), σ = [some (.str (S u)), some (.ref q), b] ∧ H2 q = some (.lst (hs.map V.int ++ [V.int h])) ∧ Same H H2 ∧ hs ++ h :: heightsGo h r = heightsM u) ⟨none, [], 0, rfl, upd_same, same_new hq, rfl⟩ ?_ ?_⟩
    · rintro b r σ H2 ⟨_, hs, h, rfl, h2, e2, hM⟩
      have hL : ∃ xs, SqL K H2 q xs := ⟨_, sqL_of h2⟩
      have hlen : hs.length ≤ 12 := by
        have := congrArg List.length hM
        simp [heightsM, heightsGo_len] at this
        omega
      simp [tSeq, tIfS, tOr, tAnd, tNot, tB, tCB, tCons, tNil, tVar, tC, tTest, tChain, rI0, rI, tOp, tUn, rU, tRet, tRetN, tNext, rNe, rEq, tAug, tAsg, gName, ipI, tDrop, tIf, tFld, tM1, tTup, tLst, tSl, tPart, rSlS, rIxS, tCall, tMeth, tProp, tMake, gTup, gCons, gNil, tPar, rAppend, tyV, tThen, tNotN, tIsN, tNotV, tRg1, tLstRg, scal, flds_word, gSub, tBM, S_len, S_app, S_count, S_take, S_drop, S_cut, S_rep, lit_d, lit_o, lit_do, lit_od, lit_e, L2.start, wipe, and_assoc, tAndV, tOrV, tNoPart, Int.ofNat_inj, hL]
      refine rIxL_i (sqL_of h2) at_last ?_
      cases b <;> simp [tSeq, tIfS, tOr, tAnd, tNot, tB, tCB, tCons, tNil, tVar, tC, tTest, tChain, rI0, rI, tOp, tUn, rU, tRet, tRetN, tNext, rNe, rEq, tAug, tAsg, gName, ipI, tDrop, tIf, tFld, tM1, tTup, tLst, tSl, tPart, rSlS, rIxS, tCall, tMeth, tProp, tMake, gTup, gCons, gNil, tPar, rAppend, tyV, tThen, tNotN, tIsN, tNotV, tRg1, tLstRg, scal, flds_word, gSub, tBM, S_len, S_app, S_count, S_take, S_drop, S_cut, S_rep, lit_d, lit_o, lit_do, lit_od, lit_e, L2.start, wipe, and_assoc, tAndV, tOrV, tNoPart, Int.ofNat_inj, h2]
      all_goals refine ⟨small' (by omega), hs ++ [h], ?_⟩
      · refine ⟨h + -1, ?_, same_mut e2 hq, ?_⟩
        · simp [upd_same]
        · rw [← hM, show h + -1 = h - 1 from rfl]
          simp [heightsGo]
      · refine ⟨h + 1, ?_, same_mut e2 hq, ?_⟩
        · simp [upd_same]
        · rw [← hM]
          simp [heightsGo]
    · rintro σ H2 ⟨_, hs, h, rfl, h2, e2, hM⟩
      refine ⟨_, rfl, k _ _ e2 ?_⟩
      rw [← hM]
      refine dp_lst (vs := (hs ++ [h]).map V.int) (by rw [nw_at hq, h2]; simp) ?_
      exact dpA_ints _
/-! ### _law_all_words -/
theorem lev_len' : ∀ n, n < 5 → ∀ i, i < 9 → (allGo n [[]] i).length ≤ 100 := by decide +kernel
theorem lev_len (n i : Nat) (hi : i ≤ 2 * n) (hn : n ≤ 4) : (allGo n [[]] i).length ≤ 100 := lev_len' n (by omega) i (by omega)
def dWd (u : Wd) : PyData := .str (S u)
def spAll (K : PySem.W.Frag) : Sp := fun vs H Q _ => ∃ n : Nat, vs = [.int (n : Int)] ∧ n ≤ 4 ∧ ∀ H' v, Same H H' → Dp K (nw H H') v (.list ((allM n).map dWd)) → Q v H'
theorem cl_allwords (T : Txt K mg C) (D : Df K mg "_law_all_words" s_l_all_words ["_law_size"]) : Cl P w K mg base 1 "_law_all_words" ["_law_size"] (spAll K) := by
  refine D.cl fun f fd F => F.ok sc_l_all_words (fun vs H Q E h => ?_) (fun cdv A outer s H vs Q E hr h => ?_)
  · obtain ⟨n, rfl, _⟩ := h
    rfl
  · obtain ⟨n, rfl, hn, k⟩ := h
    refine ⟨_, (pss_cons (ps_set (i := 1) sc_l_all_words.nd rfl (.inl rfl) (pe_lst (pa_cons pe_str pa_nil)))
      (pss_cons (ps_for PassesOwn.never rfl (pi_range1 (by rfl) T.range_ (pa_cons (pe_op op_mul pe_int (pv 0)) pa_nil)) (pg_name (i := 2) sc_l_all_words.nd rfl (.inl rfl)) (pss_cons (ps_set (i := 3) sc_l_all_words.nd rfl (.inl rfl) (pe_lst pa_nil))
      (pss_cons (ps_for PassesOwn.never rfl (pi_list (pe_callTy call_list_of (by rfl) T.list_ (by decide +kernel) (pa_cons (pv 1) pa_nil))) (pg_name (i := 4) sc_l_all_words.nd rfl (.inl rfl)) (pss_cons (ps_if (pt_cmpR op_lt (pe_m1 PySem.F.slot_str_count PySem.F.type_str_count mt_count (pv 4) pe_str) (pv 0) (nomark _)) (pss_one (ps_expr (pe_bm PySem.F.plainAttrs_list PySem.F.slot_list_append PySem.F.type_list_append mt_append (pv 3) (pa_cons (pe_op op_add_str (pv 4) pe_str) pa_nil)))) pss_nil)
      (pss_one (ps_if (pt_cmpR op_gt (pe_m1 PySem.F.slot_str_count PySem.F.type_str_count mt_count (pv 4) pe_str) (pe_m1 PySem.F.slot_str_count PySem.F.type_str_count mt_count (pv 4) pe_str) (nomark _)) (pss_one (ps_expr (pe_bm PySem.F.plainAttrs_list PySem.F.slot_list_append PySem.F.type_list_append mt_append (pv 3) (pa_cons (pe_op op_add_str (pv 4) pe_str) pa_nil)))) pss_nil))))
      (pss_one (ps_set (i := 1) sc_l_all_words.nd rfl (.inl rfl) (pv 3))))))
      (pss_one (ps_ret (pv 1))))), ?_⟩
    simp [tSeq, tIfS, tOr, tAnd, tNot, tB, tCB, tCons, tNil, tVar, tC, tTest, tChain, rI0, rI, tOp, tUn, rU, tRet, tRetN, tNext, rNe, rEq, tAug, tAsg, gName, ipI, tDrop, tIf, tFld, tM1, tTup, tLst, tSl, tPart, rSlS, rIxS, tCall, tMeth, tProp, tMake, gTup, gCons, gNil, tPar, rAppend, tyV, tThen, tNotN, tIsN, tNotV, tRg1, tLstRg, scal, flds_word, gSub, tBM, S_len, S_app, S_count, S_take, S_drop, S_cut, S_rep, lit_d, lit_o, lit_do, lit_od, lit_e, L2.start, wipe, and_assoc, tAndV, tOrV, tNoPart, Int.ofNat_inj]
    intro q hq
    obtain ⟨Po, hPo⟩ : ∃ Po : Nat → L2.St → Hp → Prop, ∀ i σ H2, Po i σ H2 ↔ ∃ (q : Addr) (acc : List V) (x2 x3 x4 : Option V), σ = [some (.int (n : Int)), some (.ref q), x2, x3, x4] ∧ H2 q = some (.lst acc) ∧ Same H H2 ∧ H q = none ∧ DpAll K (nw H H2) acc ((allGo n [[]] i).map dWd) := ⟨_, fun _ _ _ => Iff.rfl⟩
    refine forJ (Itr 0 (2 * n)) _ (fun R r => ?_) (for_range (n := 2 * n) Po ((hPo _ _ _).mpr ⟨q, _, none, none, none, rfl, upd_same, same_new hq, hq, .cons (.str _) .nil⟩) ?_ ?_)
    · simp [tSeq, tIfS, tOr, tAnd, tNot, tB, tCB, tCons, tNil, tVar, tC, tTest, tChain, rI0, rI, tOp, tUn, rU, tRet, tRetN, tNext, rNe, rEq, tAug, tAsg, gName, ipI, tDrop, tIf, tFld, tM1, tTup, tLst, tSl, tPart, rSlS, rIxS, tCall, tMeth, tProp, tMake, gTup, gCons, gNil, tPar, rAppend, tyV, tThen, tNotN, tIsN, tNotV, tRg1, tLstRg, scal, flds_word, gSub, tBM, S_len, S_app, S_count, S_take, S_drop, S_cut, S_rep, lit_d, lit_o, lit_do, lit_od, lit_e, L2.start, wipe, and_assoc, tAndV, tOrV, tNoPart, Int.ofNat_inj, iRng1]
      exact ⟨by omega, by omega, by rw [show (2 * (n : Int)).toNat = 2 * n from by omega]; exact r⟩
    · intro i σ H2 hi hP
      obtain ⟨q, acc, x2, x3, x4, rfl, h2q, e2, hq, hd⟩ := (hPo _ _ _).mp hP
      have hlv := lev_len n i (by omega) hn
      simp [tSeq, tIfS, tOr, tAnd, tNot, tB, tCB, tCons, tNil, tVar, tC, tTest, tChain, rI0, rI, tOp, tUn, rU, tRet, tRetN, tNext, rNe, rEq, tAug, tAsg, gName, ipI, tDrop, tIf, tFld, tM1, tTup, tLst, tSl, tPart, rSlS, rIxS, tCall, tMeth, tProp, tMake, gTup, gCons, gNil, tPar, rAppend, tyV, tThen, tNotN, tIsN, tNotV, tRg1, tLstRg, scal, flds_word, gSub, tBM, S_len, S_app, S_count, S_take, S_drop, S_cut, S_rep, lit_d, lit_o, lit_do, lit_od, lit_e, L2.start, wipe, and_assoc, tAndV, tOrV, tNoPart, Int.ofNat_inj]
      intro l hl
      have hlq : l ≠ q := fun c => by rw [c, h2q] at hl; cases hl
      refine ⟨_, rfl, q, rfl, acc, .inl (sqL_of (by rw [upd_ne (Ne.symm hlq)]; exact h2q)), fun c hc => ⟨c, rfl, ⟨_, sqL_of upd_same⟩, ?_⟩⟩
      obtain ⟨hc2, hlc⟩ := new_ne hc
      obtain ⟨B, hB⟩ : ∃ B : Hp, B = upd (upd H2 l (.lst [])) c (.lst acc) := ⟨_, rfl⟩
      rw [← hB]
      have eB : SX [l] H2 B := by
        rw [hB]
        exact (SX.put (X := [l]) SX.rfl' (by simp)).trans (SX.of (same_new hc))
      have hBl : B l = some (.lst []) := by rw [hB, upd_ne hlc, upd_same]
      have hBc : B c = some (.lst acc) := by rw [hB, upd_same]
      have hl0 := none_back e2 hl
      have nF : Same (nw H H2) (nwx [l] H B) := fun b o h => by
        obtain ⟨g1, g2⟩ := nw_of h
        have hbl : ¬ b ∈ [l] := by
          simp
          intro c
          rw [c, hl] at g2
          cases g2
        exact nwx_at hbl g1 (eB _ _ g2 hbl)
      have hcF : nwx [l] H B c = some (.lst acc) := nwx_at (by simpa using (Ne.symm hlc)) (none_back e2 hc2) hBc
      obtain ⟨Pi, hPi⟩ : ∃ Pi : List PyData → L2.St → Hp → Prop, ∀ r σ H3, Pi r σ H3 ↔ ∃ (ws : List Wd) (accL : List V) (lm : List Wd) (x4 : Option V), r = ws.map dWd ∧ σ = [some (.int (n : Int)), some (.ref q), some (.int (i : Int)), some (.ref l), x4] ∧ H3 l = some (.lst accL) ∧ SX [l] B H3 ∧ DpAll K (nwx [l] H H3) accL (lm.map dWd) ∧ (∀ u ∈ ws, u ∈ allGo n [[]] i) ∧ lm ++ lstep n ws = allGo n [[]] (i + 1) := ⟨_, fun _ _ _ => Iff.rfl⟩
      refine for_listD (F := nwx [l] H B) (sqL_of hcF) (DpAll.same hd nF) Pi (fun r σ H3 h => ?_) ((hPi _ _ _).mpr ⟨allGo n [[]] i, [], [], _, rfl, rfl, hBl, SX.rfl', .nil, fun _ h => h, by rw [allGo_end]; rfl⟩) ?_ ?_
      · obtain ⟨ws, accL, lm, y4, _, _, _, e3, _⟩ := (hPi _ _ _).mp h
        exact (nwx_mono e3).trans (nwx_nw.trans nw_sub)
      · intro d r v4 σ H3 hP3 hv4
        obtain ⟨ws, accL, lm, y4, hws, rfl, h3l, e3, hd3, hmem, hM3⟩ := (hPi _ _ _).mp hP3
        cases ws with
        | nil => cases hws
        | cons u ws =>
          obtain ⟨rfl, rfl⟩ := List.cons.inj hws
          cases dp_strI hv4
          have hL : ∃ xs, SqL K H3 l xs := ⟨_, sqL_of h3l⟩
          obtain ⟨l1, l2, l3⟩ := lev_mem n i u (hmem u (by simp))
          have hz : u.length + 1 ≤ sizeLine := big (by omega)
          have hcl : accL.length + 2 < sizeLine := by
            have g1 := dpA_len hd3
            have g2 := congrArg List.length hM3
            simp at g1 g2
            have := lev_len n (i + 1) (by omega) hn
            exact big' (by omega)
          have hL2 : ∀ o, ∃ xs, SqL K (upd H3 l (.lst o)) l xs := fun o => ⟨_, sqL_of upd_same⟩
          have e1 : ∀ o, SX [l] H3 (upd H3 l (.lst o)) := fun o => SX.put (X := [l]) SX.rfl' (by simp)
          have hu : lstep n (u :: ws) = ((if Nat.blt (u.count true) n then [u ++ [true]] else []) ++ (if Nat.blt (u.count false) (u.count true) then [u ++ [false]] else [])) ++ lstep n ws := rfl
          rw [hu, ← List.append_assoc] at hM3
          have hmem' : ∀ v ∈ ws, v ∈ allGo n [[]] i := fun v hv => hmem v (by simp [hv])
          have step1 : ∀ b : Bool, DpAll K (nwx [l] H (upd H3 l (.lst (accL ++ [.str (S (u ++ [b]))])))) (accL ++ [.str (S (u ++ [b]))]) ((lm ++ [u ++ [b]]).map dWd) := fun b => by
            rw [List.map_append]
            exact (app_val (X := [l]) (by simp) hd3 (.str _)).2
          by_cases c1 : u.count true < n
          · by_cases c2 : u.count false < u.count true
            · rw [if_pos (Nat.blt_eq.mpr c1), if_pos (Nat.blt_eq.mpr c2)] at hM3
              have step2 : DpAll K (nwx [l] H (upd H3 l (.lst (accL ++ [.str (S (u ++ [true])), .str (S (u ++ [false]))])))) (accL ++ [.str (S (u ++ [true])), .str (S (u ++ [false]))]) ((lm ++ [u ++ [true], u ++ [false]]).map dWd) := by
                rw [List.map_append]
                exact dpA_app (DpAll.same hd3 (nwx_mono (e1 _))) (.cons (.str _) (.cons (.str _) .nil))
              simp [tSeq, tIfS, tOr, tAnd, tNot, tB, tCB, tCons, tNil, tVar, tC, tTest, tChain, rI0, rI, tOp, tUn, rU, tRet, tRetN, tNext, rNe, rEq, tAug, tAsg, gName, ipI, tDrop, tIf, tFld, tM1, tTup, tLst, tSl, tPart, rSlS, rIxS, tCall, tMeth, tProp, tMake, gTup, gCons, gNil, tPar, rAppend, tyV, tThen, tNotN, tIsN, tNotV, tRg1, tLstRg, scal, flds_word, gSub, tBM, S_len, S_app, S_count, S_take, S_drop, S_cut, S_rep, lit_d, lit_o, lit_do, lit_od, lit_e, L2.start, wipe, and_assoc, tAndV, tOrV, tNoPart, Int.ofNat_inj, hL, hL2, c1, c2, h3l, hz, upd_same, upd_upd]
              refine ⟨by omega, by omega, ?_⟩
              exact (hPi _ _ _).mpr ⟨ws, _, lm ++ [u ++ [true], u ++ [false]], _, rfl, rfl, upd_same, e3.trans (e1 _), step2, hmem', hM3⟩
            · rw [if_pos (Nat.blt_eq.mpr c1), if_neg (fun z => c2 (Nat.blt_eq.mp z))] at hM3
              simp [tSeq, tIfS, tOr, tAnd, tNot, tB, tCB, tCons, tNil, tVar, tC, tTest, tChain, rI0, rI, tOp, tUn, rU, tRet, tRetN, tNext, rNe, rEq, tAug, tAsg, gName, ipI, tDrop, tIf, tFld, tM1, tTup, tLst, tSl, tPart, rSlS, rIxS, tCall, tMeth, tProp, tMake, gTup, gCons, gNil, tPar, rAppend, tyV, tThen, tNotN, tIsN, tNotV, tRg1, tLstRg, scal, flds_word, gSub, tBM, S_len, S_app, S_count, S_take, S_drop, S_cut, S_rep, lit_d, lit_o, lit_do, lit_od, lit_e, L2.start, wipe, and_assoc, tAndV, tOrV, tNoPart, Int.ofNat_inj, hL, hL2, c1, c2, h3l, hz, upd_same, upd_upd]
              refine ⟨by omega, ?_⟩
              exact (hPi _ _ _).mpr ⟨ws, _, lm ++ [u ++ [true]], _, rfl, rfl, upd_same, e3.trans (e1 _), step1 true, hmem', hM3⟩
          · by_cases c2 : u.count false < u.count true
            · rw [if_neg (fun z => c1 (Nat.blt_eq.mp z)), if_pos (Nat.blt_eq.mpr c2)] at hM3
              simp [tSeq, tIfS, tOr, tAnd, tNot, tB, tCB, tCons, tNil, tVar, tC, tTest, tChain, rI0, rI, tOp, tUn, rU, tRet, tRetN, tNext, rNe, rEq, tAug, tAsg, gName, ipI, tDrop, tIf, tFld, tM1, tTup, tLst, tSl, tPart, rSlS, rIxS, tCall, tMeth, tProp, tMake, gTup, gCons, gNil, tPar, rAppend, tyV, tThen, tNotN, tIsN, tNotV, tRg1, tLstRg, scal, flds_word, gSub, tBM, S_len, S_app, S_count, S_take, S_drop, S_cut, S_rep, lit_d, lit_o, lit_do, lit_od, lit_e, L2.start, wipe, and_assoc, tAndV, tOrV, tNoPart, Int.ofNat_inj, hL, hL2, c1, c2, h3l, hz, upd_same, upd_upd]
              refine ⟨by omega, ?_⟩
              exact (hPi _ _ _).mpr ⟨ws, _, lm ++ [u ++ [false]], _, rfl, rfl, upd_same, e3.trans (e1 _), step1 false, hmem', hM3⟩
            · rw [if_neg (fun z => c1 (Nat.blt_eq.mp z)), if_neg (fun z => c2 (Nat.blt_eq.mp z))] at hM3
              simp [tSeq, tIfS, tOr, tAnd, tNot, tB, tCB, tCons, tNil, tVar, tC, tTest, tChain, rI0, rI, tOp, tUn, rU, tRet, tRetN, tNext, rNe, rEq, tAug, tAsg, gName, ipI, tDrop, tIf, tFld, tM1, tTup, tLst, tSl, tPart, rSlS, rIxS, tCall, tMeth, tProp, tMake, gTup, gCons, gNil, tPar, rAppend, tyV, tThen, tNotN, tIsN, tNotV, tRg1, tLstRg, scal, flds_word, gSub, tBM, S_len, S_app, S_count, S_take, S_drop, S_cut, S_rep, lit_d, lit_o, lit_do, lit_od, lit_e, L2.start, wipe, and_assoc, tAndV, tOrV, tNoPart, Int.ofNat_inj, hL, hL2, c1, c2, h3l, hz, upd_same, upd_upd]
              exact (hPi _ _ _).mpr ⟨ws, _, lm, _, rfl, rfl, h3l, e3, hd3, hmem', by simpa using hM3⟩
      · intro σ H3 hP3
        obtain ⟨ws, accL, lm, y4, hws, rfl, h3l, e3, hd3, hmem, hM3⟩ := (hPi _ _ _).mp hP3
        cases ws with
        | cons u ws => cases hws
        | nil =>
          simp [tSeq, tIfS, tOr, tAnd, tNot, tB, tCB, tCons, tNil, tVar, tC, tTest, tChain, rI0, rI, tOp, tUn, rU, tRet, tRetN, tNext, rNe, rEq, tAug, tAsg, gName, ipI, tDrop, tIf, tFld, tM1, tTup, tLst, tSl, tPart, rSlS, rIxS, tCall, tMeth, tProp, tMake, gTup, gCons, gNil, tPar, rAppend, tyV, tThen, tNotN, tIsN, tNotV, tRg1, tLstRg, scal, flds_word, gSub, tBM, S_len, S_app, S_count, S_take, S_drop, S_cut, S_rep, lit_d, lit_o, lit_do, lit_od, lit_e, L2.start, wipe, and_assoc, tAndV, tOrV, tNoPart, Int.ofNat_inj]
          rw [show lstep n [] = [] from rfl, List.append_nil] at hM3
          rw [hM3] at hd3
          exact (hPo _ _ _).mpr ⟨l, accL, _, _, _, rfl, h3l, (((SX.of e2).trans eB).trans e3).same (by simp [hl0]), hl0, DpAll.same hd3 nwx_nw⟩
    · intro σ H2 hP
      obtain ⟨q, acc, x2, x3, x4, rfl, h2q, e2, hq, hd⟩ := (hPo _ _ _).mp hP
      exact ⟨_, rfl, k _ _ e2 (dp_lst (by rw [nw_at hq]; exact h2q) hd)⟩
end
end K12
set_option Elab.async false
set_option linter.all false
set_option maxRecDepth 100000
set_option maxHeartbeats 4000000
namespace K12
open PySem PySem.Spec PyProof.Rows L2 K12M
abbrev s_l_pull : Stmt := top 28
theorem sc_l_pull : FnScope ["_law_word_here", "_law_pull_here", "_law_t", "_law_i", "_law_j"] ["_law_word_here", "_law_pull_here"] (defScope s_l_pull) := ⟨rfl, rfl, rfl, by decide +kernel, rfl, by decide +kernel, by decide +kernel⟩
abbrev s_l_pulls : Stmt := top 29
theorem sc_l_pulls : FnScope ["_law_word_here", "_law_found", "_law_size", "_law_t", "_law_i", "_law_j", "_law_behind"] ["_law_word_here"] (defScope s_l_pulls) := ⟨rfl, rfl, rfl, by decide +kernel, rfl, by decide +kernel, by decide +kernel⟩
abbrev s_l_orders : Stmt := top 31
theorem sc_l_orders : FnScope ["_law_many", "_law_orders_here", "_law_k", "_law_longer", "_law_order", "_law_x"] ["_law_many"] (defScope s_l_orders) := ⟨rfl, rfl, rfl, by decide +kernel, rfl, by decide +kernel, by decide +kernel⟩
abbrev s_l_undone : Stmt := top 32
theorem sc_l_undone : FnScope ["_law_word_here", "_law_at", "_law_places", "_law_first", "_law_low", "_law_high", "_law_downs", "_law_outs", "_law_t"] ["_law_word_here", "_law_at"] (defScope s_l_undone) := ⟨rfl, rfl, rfl, by decide +kernel, rfl, by decide +kernel, by decide +kernel⟩
abbrev s_l_row : Stmt := top 33
theorem sc_l_row : FnScope ["_law_word_here", "_law_order", "_law_left", "_law_here", "_law_pulls_here", "_law_ridge", "_law_pull_here", "_law_x"] ["_law_word_here", "_law_order"] (defScope s_l_row) := ⟨rfl, rfl, rfl, by decide +kernel, rfl, by decide +kernel, by decide +kernel⟩
abbrev s_l_plain : Stmt := top 34
theorem sc_l_plain : FnScope ["_law_row_here", "_law_pull_here", "_law_x"] ["_law_row_here"] (defScope s_l_plain) := ⟨rfl, rfl, rfl, by decide +kernel, rfl, by decide +kernel, by decide +kernel⟩
section
variable {P : Program} {w : World} {K : PySem.W.Frag} {mg : Str → Option Value} {base : Heap} {C : Addr}
/-! ### _law_pull -/
theorem cut_len (w : Wd) (i j : Nat) : (cut w i j).length = min (j - i) (w.length - i) := by
  unfold cut
  rw [List.length_take, List.length_drop]
def oV : Option Wd → V
  | some u => .str (S u)
  | none => .non
def spLPull (K : PySem.W.Frag) : Sp := fun vs H Q _ => ∃ (u : Wd) (v : V) (q : Pull), vs = [.str (S u), v] ∧ u.length ≤ 12 ∧ Dp K H v (dPull q) ∧ q.2.1 ≤ 100 ∧ q.2.2 ≤ 100 ∧ ∀ H', Same H H' → Q (oV (lawPullM u q)) H'
theorem cl_lpull (T : Txt K mg C) (clh : Cl P w K mg base 1 "_law_heights" ["_law_word_here"] (spLH K)) (D : Df K mg "_law_pull" s_l_pull ["_law_word_here", "_law_pull_here"]) : Cl P w K mg base 2 "_law_pull" ["_law_word_here", "_law_pull_here"] (spLPull K) := by
  obtain ⟨f__law_heights, fd__law_heights, F__law_heights, g__law_heights, k__law_heights, b__law_heights⟩ := clh
  refine D.cl fun f fd F => F.ok sc_l_pull (fun vs H Q E h => ?_) (fun cdv A outer s H vs Q E hr h => ?_)
  · obtain ⟨u, v, q, rfl, _⟩ := h
    rfl
  · obtain ⟨u, v, q, rfl, hl, hv, hb1, hb2, k⟩ := h
    obtain ⟨a, xs, rfl, hs, hd⟩ := dp_tupI hv
    have := ints_dpA [(q.1 : Int), (q.2.1 : Int), (q.2.2 : Int)] hd
    subst this
    refine ⟨_, (pss_cons (ps_asg (pv 1) (pg_tup (n := 3) rfl (pgs_cons (pg_name (i := 2) sc_l_pull.nd rfl (.inl rfl)) (pgs_cons (pg_name (i := 3) sc_l_pull.nd rfl (.inl rfl)) (pgs_cons (pg_name (i := 4) sc_l_pull.nd rfl (.inl rfl)) pgs_nil)))))
      (pss_cons (ps_if (PW.pt (pw_or (pt_cmpR op_lt (pv 2) pe_int (nomark _)) (pw_or (pt_cmpR op_ne (pe_slice sl_str (pv 0) (po_some (pe_op op_sub (pv 2) pe_int)) (po_some (pe_op op_add (pv 2) pe_int))) pe_str (nomark _)) (pw_or (pt_cmpR op_ne (pe_slice sl_str (pv 0) (po_some (pe_callB (call_max2 rfl) (by rfl) T.max_ (by decide +kernel) (pa_cons (pe_op op_sub (pv 2) (pv 3)) (pa_cons pe_int pa_nil)))) (po_some (pv 2))) (pe_op K12R.op_mulS pe_str (pv 3)) (nomark _)) (pw_or1 (pt_cmpR op_ne (pe_slice sl_str (pv 0) (po_some (pv 2)) (po_some (pe_op op_add (pv 2) (pv 4)))) (pe_op K12R.op_mulS pe_str (pv 4)) (nomark _))))))) (pss_one (ps_ret pe_non)) pss_nil)
      (pss_cons (ps_if (pt_cmpR op_gt (pe_op op_add (pv 3) (pv 4)) (pe_ix ix_list (pe_call F__law_heights (hr.mono (by decide)) (by rfl) g__law_heights k__law_heights b__law_heights .nil pass0 (pa_cons (pv 0) pa_nil)) (pv 2) (fun _ _ => rfl)) (nomark _)) (pss_one (ps_ret pe_non)) pss_nil)
      (pss_one (ps_ret (pe_op op_add_str (pe_op op_add_str (pe_op op_add_str (pe_slice sl_str (pv 0) po_none (po_some (pe_op op_sub (pv 2) (pv 3)))) (pe_op K12R.op_mulS pe_str (pv 4))) (pe_op K12R.op_mulS pe_str (pv 3))) (pe_slice sl_str (pv 0) (po_some (pe_op op_add (pv 2) (pv 4))) po_none))))))), ?_⟩
    simp [tSeq, tIfS, tOr, tAnd, tNot, tB, tCB, tCons, tNil, tVar, tC, tTest, tChain, rI0, rI, tOp, tUn, rU, tRet, tRetN, tNext, rNe, rEq, tAug, tAsg, gName, ipI, tDrop, tIf, tFld, tM1, tTup, tLst, tSl, tPart, rSlS, rIxS, tCall, tMeth, tProp, tMake, gTup, gCons, gNil, tPar, rAppend, tyV, tThen, tNotN, tIsN, tNotV, tRg1, tLstRg, scal, flds_word, gSub, tBM, S_len, S_app, S_count, S_take, S_drop, S_cut, S_rep, lit_d, lit_o, lit_do, lit_od, lit_e, L2.start, wipe, and_assoc, tAndV, tOrV, tNoPart, Int.ofNat_inj]
    refine ⟨_, hs, rfl, _, _, rfl, _, _, rfl, _, _, rfl, rfl, ?_⟩
    obtain ⟨t, i, j⟩ := q
    simp only at hb1 hb2 k hs hd hv
    have hz : u.length ≤ sizeLine := big (by omega)
    by_cases h0 : (t : Int) < 1
    · have ht : t = 0 := by omega
      subst ht
      simp
      have hn : lawPullM u (0, i, j) = none := by
        have : (cut u (0 - 1) (0 + 1) == [true, false]) = false := by
          refine beq_eq_false_iff_ne.mpr fun e => ?_
          have := congrArg List.length e
          rw [cut_len] at this
          simp at this
          omega
        simp only [lawPullM, this, Bool.false_and]
      rw [hn] at k
      exact k _ (Same.refl _)
    · obtain ⟨a', ha⟩ : ∃ a', a' = t - 1 := ⟨_, rfl⟩
      obtain ⟨b', hb⟩ : ∃ b', b' = t + 1 := ⟨_, rfl⟩
      obtain ⟨c', hc⟩ : ∃ c', c' = t - i := ⟨_, rfl⟩
      obtain ⟨d', hd'⟩ : ∃ d', d' = t + j := ⟨_, rfl⟩
      have e1 : (t : Int) - 1 = (a' : Int) := by omega
      have e2 : (t : Int) + 1 = (b' : Int) := by omega
      have e3 : (if (t : Int) - (i : Int) < 0 then 0 else (t : Int) - (i : Int)) = (c' : Int) := by
        split <;> omega
      have e4 : (t : Int) + (j : Int) = (d' : Int) := by omega
      obtain ⟨g, hg⟩ : ∃ g, g = (heightsM u).getD t 0 := ⟨_, rfl⟩
      have hM : lawPullM u (t, i, j) = match cut u a' b' == [true, false] && (cut u c' t == List.replicate i true && (cut u t d' == List.replicate j false && decide (((i + j : Nat) : Int) ≤ g))) with
        | true => some (made u c' (List.replicate j false ++ List.replicate i true) d')
        | false => none := by
        rw [ha, hb, hc, hd', hg]
        rfl
      have m1 : i ≤ 1000 := by omega
      have m2 : j ≤ 1000 := by omega
      simp [tSeq, tIfS, tOr, tAnd, tNot, tB, tCB, tCons, tNil, tVar, tC, tTest, tChain, rI0, rI, tOp, tUn, rU, tRet, tRetN, tNext, rNe, rEq, tAug, tAsg, gName, ipI, tDrop, tIf, tFld, tM1, tTup, tLst, tSl, tPart, rSlS, rIxS, tCall, tMeth, tProp, tMake, gTup, gCons, gNil, tPar, rAppend, tyV, tThen, tNotN, tIsN, tNotV, tRg1, tLstRg, scal, flds_word, gSub, tBM, S_len, S_app, S_count, S_take, S_drop, S_cut, S_rep, lit_d, lit_o, lit_do, lit_od, lit_e, L2.start, wipe, and_assoc, tAndV, tOrV, tNoPart, Int.ofNat_inj, h0, e1, e2, e3, e4, hz, m1, m2]
      by_cases c1 : cut u a' b' = [true, false]
      · by_cases c2 : cut u c' t = List.replicate i true
        · by_cases c3 : cut u t d' = List.replicate j false
          · have l1 := congrArg List.length c1
            have l2 := congrArg List.length c2
            have l3 := congrArg List.length c3
            rw [cut_len] at l1 l2 l3
            simp at l1 l2 l3
            have e5 : (t : Int) - (i : Int) = (c' : Int) := by omega
            simp [tSeq, tIfS, tOr, tAnd, tNot, tB, tCB, tCons, tNil, tVar, tC, tTest, tChain, rI0, rI, tOp, tUn, rU, tRet, tRetN, tNext, rNe, rEq, tAug, tAsg, gName, ipI, tDrop, tIf, tFld, tM1, tTup, tLst, tSl, tPart, rSlS, rIxS, tCall, tMeth, tProp, tMake, gTup, gCons, gNil, tPar, rAppend, tyV, tThen, tNotN, tIsN, tNotV, tRg1, tLstRg, scal, flds_word, gSub, tBM, S_len, S_app, S_count, S_take, S_drop, S_cut, S_rep, lit_d, lit_o, lit_do, lit_od, lit_e, L2.start, wipe, and_assoc, tAndV, tOrV, tNoPart, Int.ofNat_inj, c1, c2, c3, e5]
            refine ⟨u, rfl, hl, fun H1 v e6 hv1 => ?_⟩
            obtain ⟨ah, xh, rfl, hsh, hdh⟩ := dp_lstI hv1
            have := ints_dpA _ hdh
            subst this
            have hln : (heightsM u).length = u.length + 1 := by simp [heightsM, heightsGo_len]
            have hat : ((heightsM u).map V.int)[t]? = some (V.int g) := by
              rw [hg, List.getElem?_map, List.getElem?_eq_getElem (by omega), List.getD_eq_getElem?_getD, List.getElem?_eq_getElem (by omega)]
              rfl
            refine rIxL_i (nw_sub.seq hsh) (at_lt hat) ?_
            refine ⟨_, rfl, ?_⟩
            by_cases c4 : ((i + j : Nat) : Int) ≤ g
            · have c4' : ¬ g < (i : Int) + (j : Int) := by omega
              rw [if_neg c4']
              rw [hM, beq_iff_eq.mpr c1, beq_iff_eq.mpr c2, beq_iff_eq.mpr c3, decide_eq_true c4] at k
              refine ⟨big (by omega), big (by omega), big (by omega), ?_⟩
              have := k _ e6
              rw [show List.take c' u ++ (List.replicate j false ++ (List.replicate i true ++ List.drop d' u)) = made u c' (List.replicate j false ++ List.replicate i true) d' from by simp [made]]
              exact this
            · have c4' : g < (i : Int) + (j : Int) := by omega
              rw [if_pos c4']
              rw [hM, beq_iff_eq.mpr c1, beq_iff_eq.mpr c2, beq_iff_eq.mpr c3, decide_eq_false c4] at k
              exact k _ e6
          · rw [hM, beq_iff_eq.mpr c1, beq_iff_eq.mpr c2, beq_eq_false_iff_ne.mpr c3] at k
            simp [c1, c2, c3]
            exact k _ (Same.refl _)
        · rw [hM, beq_iff_eq.mpr c1, beq_eq_false_iff_ne.mpr c2] at k
          simp [c1, c2]
          exact k _ (Same.refl _)
      · rw [hM, beq_eq_false_iff_ne.mpr c1] at k
        simp [c1]
        exact k _ (Same.refl _)
/-! ### _law_pulls -/
def dLP (x : Pull × Wd) : PyData := .tuple [dPull x.1, .str (S x.2)]
def one (u : Wd) (q : Pull) : List (Pull × Wd) := match lawPullM u q with
  | some x => [(q, x)]
  | none => []
def in2 (u : Wd) (t i : Nat) (n : Nat) : List (Pull × Wd) := (List.range n).flatMap fun j => one u (t + 1, i + 1, j + 1)
def in1 (u : Wd) (t : Nat) (n : Nat) : List (Pull × Wd) := (List.range n).flatMap fun i => in2 u t i (u.length / 2 - 1)
def in0 (u : Wd) (n : Nat) : List (Pull × Wd) := (List.range n).flatMap fun t => if cut u t (t + 2) == [true, false] then in1 u t (u.length / 2 - 1) else []
def lawPullsM (u : Wd) : List (Pull × Wd) := in0 u (u.length - 1)
theorem fl_succ {α : Type} (f : Nat → List α) (n : Nat) : (List.range (n + 1)).flatMap f = (List.range n).flatMap f ++ f n := by
  rw [List.range_succ, List.flatMap_append]
  simp
theorem fl_len {α : Type} (f : Nat → List α) (c : Nat) (h : ∀ i, (f i).length ≤ c) : ∀ n, ((List.range n).flatMap f).length ≤ n * c
  | 0 => by simp
  | n + 1 => by
    have := fl_len f c h n
    have := h n
    rw [fl_succ, List.length_append, Nat.succ_mul]
    omega
theorem one_len (u : Wd) (q : Pull) : (one u q).length ≤ 1 := by
  unfold one
  split <;> simp
theorem in2_len (u : Wd) (t i n : Nat) : (in2 u t i n).length ≤ n * 1 := fl_len _ 1 (fun _ => one_len _ _) n
theorem in1_len (u : Wd) (t n : Nat) : (in1 u t n).length ≤ n * ((u.length / 2 - 1) * 1) := fl_len _ _ (fun _ => in2_len _ _ _ _) n
theorem in0_len (u : Wd) (n : Nat) : (in0 u n).length ≤ n * ((u.length / 2 - 1) * ((u.length / 2 - 1) * 1)) := fl_len _ _ (fun t => by
  split
  · exact in1_len _ _ _
  · exact Nat.zero_le _) n
def spLPulls (K : PySem.W.Frag) : Sp := fun vs H Q _ => ∃ u : Wd, vs = [.str (S u)] ∧ 2 ≤ u.length ∧ u.length ≤ 12 ∧ ∀ H' v, Same H H' → Dp K (nw H H') v (.list ((lawPullsM u).map dLP)) → Q v H'
theorem cl_lpulls (T : Txt K mg C) (clp : Cl P w K mg base 2 "_law_pull" ["_law_word_here", "_law_pull_here"] (spLPull K)) (D : Df K mg "_law_pulls" s_l_pulls ["_law_word_here"]) : Cl P w K mg base 3 "_law_pulls" ["_law_word_here"] (spLPulls K) := by
  obtain ⟨f__law_pull, fd__law_pull, F__law_pull, g__law_pull, k__law_pull, b__law_pull⟩ := clp
  refine D.cl fun f fd F => F.ok sc_l_pulls (fun vs H Q E h => ?_) (fun cdv A outer s H vs Q E hr h => ?_)
  · obtain ⟨u, rfl, _⟩ := h
    rfl
  · obtain ⟨u, rfl, hl2, hl, k⟩ := h
    refine ⟨_, (pss_cons (ps_set (i := 1) sc_l_pulls.nd rfl (.inl rfl) (pe_lst pa_nil))
      (pss_cons (ps_set (i := 2) sc_l_pulls.nd rfl (.inl rfl) (pe_op op_fdiv (pe_callB call_len_str (by rfl) T.len_ PySem.boot_len (pa_cons (pv 0) pa_nil)) pe_int))
      (pss_cons (ps_for PassesOwn.never rfl (pi_range2 (by rfl) T.range_ (pa_cons pe_int (pa_cons (pe_callB call_len_str (by rfl) T.len_ PySem.boot_len (pa_cons (pv 0) pa_nil)) pa_nil))) (pg_name (i := 3) sc_l_pulls.nd rfl (.inl rfl)) (pss_one (ps_if (pt_cmpR op_eq (pe_slice sl_str (pv 0) (po_some (pe_op op_sub (pv 3) pe_int)) (po_some (pe_op op_add (pv 3) pe_int))) pe_str (nomark _)) (pss_one (ps_for PassesOwn.never rfl (pi_range2 (by rfl) T.range_ (pa_cons pe_int (pa_cons (pv 2) pa_nil))) (pg_name (i := 4) sc_l_pulls.nd rfl (.inl rfl)) (pss_one (ps_for PassesOwn.never rfl (pi_range2 (by rfl) T.range_ (pa_cons pe_int (pa_cons (pv 2) pa_nil))) (pg_name (i := 5) sc_l_pulls.nd rfl (.inl rfl)) (pss_cons (ps_set (i := 6) sc_l_pulls.nd rfl (.inl rfl) (pe_call F__law_pull (hr.mono (by decide)) (by rfl) g__law_pull k__law_pull b__law_pull .nil pass0 (pa_cons (pv 0) (pa_cons (pe_tup (pa_cons (pv 3) (pa_cons (pv 4) (pa_cons (pv 5) pa_nil)))) pa_nil))))
      (pss_one (ps_if (pt_cmpR op_notN (pv 6) pe_non (nomark _)) (pss_one (ps_expr (pe_bm PySem.F.plainAttrs_list PySem.F.slot_list_append PySem.F.type_list_append mt_append (pv 1) (pa_cons (pe_tup (pa_cons (pe_tup (pa_cons (pv 3) (pa_cons (pv 4) (pa_cons (pv 5) pa_nil)))) (pa_cons (pv 6) pa_nil))) pa_nil)))) pss_nil))))))) pss_nil)))
      (pss_one (ps_ret (pv 1)))))), ?_⟩
    simp [tSeq, tIfS, tOr, tAnd, tNot, tB, tCB, tCons, tNil, tVar, tC, tTest, tChain, rI0, rI, tOp, tUn, rU, tRet, tRetN, tNext, rNe, rEq, tAug, tAsg, gName, ipI, tDrop, tIf, tFld, tM1, tTup, tLst, tSl, tPart, rSlS, rIxS, tCall, tMeth, tProp, tMake, gTup, gCons, gNil, tPar, rAppend, tyV, tThen, tNotN, tIsN, tNotV, tRg1, tLstRg, scal, flds_word, gSub, tBM, S_len, S_app, S_count, S_take, S_drop, S_cut, S_rep, lit_d, lit_o, lit_do, lit_od, lit_e, L2.start, wipe, and_assoc, tAndV, tOrV, tNoPart, Int.ofNat_inj]
    intro p hp
    obtain ⟨n, hn⟩ : ∃ n, n = u.length / 2 := ⟨_, rfl⟩
    have en : (u.length : Int) / 2 = (n : Int) := by omega
    have hz : u.length ≤ sizeLine := big (by omega)
    refine ⟨hz, ⟨by decide, by decide⟩, ?_⟩
    rw [en]
    have n6 : n ≤ 6 := by omega
    have cmul5 : ∀ a b : Nat, a ≤ 5 → b ≤ 5 → a * b ≤ 25 := fun a b ha hb => Nat.mul_le_mul ha hb
    -- one step of the innermost loop, what is kept
    obtain ⟨Kp, hKp⟩ : ∃ Kp : List (Pull × Wd) → L2.St → Hp → Prop, ∀ ds σ H2, Kp ds σ H2 ↔ ∃ (acc : List V) (x3 x4 x5 x6 : Option V), σ = [some (.str (S u)), some (.ref p), some (.int (n : Int)), x3, x4, x5, x6] ∧ H2 p = some (.lst acc) ∧ SX [p] H H2 ∧ DpAll K (nwx [p] H H2) acc (ds.map dLP) := ⟨_, fun _ _ _ => Iff.rfl⟩
    refine forJ (Itr 1 (u.length - 1)) _ (fun R r => ?_) (for_range (n := u.length - 1) (fun t σ H2 => Kp (in0 u t) σ H2) ((hKp _ _ _).mpr ⟨[], none, none, none, none, rfl, upd_same, SX.of (same_new hp), .nil⟩) ?_ ?_)
    · simp [tSeq, tIfS, tOr, tAnd, tNot, tB, tCB, tCons, tNil, tVar, tC, tTest, tChain, rI0, rI, tOp, tUn, rU, tRet, tRetN, tNext, rNe, rEq, tAug, tAsg, gName, ipI, tDrop, tIf, tFld, tM1, tTup, tLst, tSl, tPart, rSlS, rIxS, tCall, tMeth, tProp, tMake, gTup, gCons, gNil, tPar, rAppend, tyV, tThen, tNotN, tIsN, tNotV, tRg1, tLstRg, scal, flds_word, gSub, tBM, S_len, S_app, S_count, S_take, S_drop, S_cut, S_rep, lit_d, lit_o, lit_do, lit_od, lit_e, L2.start, wipe, and_assoc, tAndV, tOrV, tNoPart, Int.ofNat_inj, iRng2]
      exact ⟨hz, by omega, r⟩
    · intro t σ H2 ht hP
      obtain ⟨acc, x3, x4, x5, x6, rfl, h2p, e2, hd⟩ := (hKp _ _ _).mp hP
      have et : (1 : Int) + (t : Int) = ((t + 1 : Nat) : Int) := by omega
      obtain ⟨t1, ht1⟩ : ∃ t1, t1 = t + 1 := ⟨_, rfl⟩
      obtain ⟨t2, ht2⟩ : ∃ t2, t2 = t + 2 := ⟨_, rfl⟩
      have e1 : (t1 : Int) - 1 = (t : Int) := by omega
      have e3 : (t1 : Int) + 1 = (t2 : Int) := by omega
      rw [et, ← ht1]
      simp [tSeq, tIfS, tOr, tAnd, tNot, tB, tCB, tCons, tNil, tVar, tC, tTest, tChain, rI0, rI, tOp, tUn, rU, tRet, tRetN, tNext, rNe, rEq, tAug, tAsg, gName, ipI, tDrop, tIf, tFld, tM1, tTup, tLst, tSl, tPart, rSlS, rIxS, tCall, tMeth, tProp, tMake, gTup, gCons, gNil, tPar, rAppend, tyV, tThen, tNotN, tIsN, tNotV, tRg1, tLstRg, scal, flds_word, gSub, tBM, S_len, S_app, S_count, S_take, S_drop, S_cut, S_rep, lit_d, lit_o, lit_do, lit_od, lit_e, L2.start, wipe, and_assoc, tAndV, tOrV, tNoPart, Int.ofNat_inj, e1, e3, hz]
      have hs0 : in0 u t1 = in0 u t ++ if cut u t t2 == [true, false] then in1 u t (u.length / 2 - 1) else [] := by
        rw [ht1, ht2]
        exact fl_succ _ t
      rw [hs0]
      by_cases c1 : cut u t t2 = [true, false]
      · rw [if_pos c1, if_pos (beq_iff_eq.mpr c1)]
        have hq : in0 u t = in0 u t ++ in1 u t 0 := by rw [show in1 u t 0 = [] from rfl, List.append_nil]
        have kp0 : Kp (in0 u t ++ in1 u t 0) [some (.str (S u)), some (.ref p), some (.int (n : Int)), some (.int (t1 : Int)), x4, x5, x6] H2 := (hKp _ _ _).mpr ⟨acc, _, _, _, _, rfl, h2p, e2, by rw [← hq]; exact hd⟩
        obtain ⟨K3, hK3⟩ : ∃ K3 : List (Pull × Wd) → L2.St → Hp → Prop, ∀ ds σ H2, K3 ds σ H2 ↔ ∃ (acc : List V) (x4 x5 x6 : Option V), σ = [some (.str (S u)), some (.ref p), some (.int (n : Int)), some (.int (t1 : Int)), x4, x5, x6] ∧ H2 p = some (.lst acc) ∧ SX [p] H H2 ∧ DpAll K (nwx [p] H H2) acc (ds.map dLP) := ⟨_, fun _ _ _ => Iff.rfl⟩
        have hn1 : u.length / 2 - 1 = n - 1 := by omega
        rw [hn1]
        refine forJ (Itr 1 (n - 1)) _ (fun R r => ?_) (for_range (n := n - 1) (fun i σ H2 => K3 (in0 u t ++ in1 u t i) σ H2) ((hK3 _ _ _).mpr ⟨acc, _, _, _, rfl, h2p, e2, by rw [← hq]; exact hd⟩) ?_ ?_)
        · simp [tSeq, tIfS, tOr, tAnd, tNot, tB, tCB, tCons, tNil, tVar, tC, tTest, tChain, rI0, rI, tOp, tUn, rU, tRet, tRetN, tNext, rNe, rEq, tAug, tAsg, gName, ipI, tDrop, tIf, tFld, tM1, tTup, tLst, tSl, tPart, rSlS, rIxS, tCall, tMeth, tProp, tMake, gTup, gCons, gNil, tPar, rAppend, tyV, tThen, tNotN, tIsN, tNotV, tRg1, tLstRg, scal, flds_word, gSub, tBM, S_len, S_app, S_count, S_take, S_drop, S_cut, S_rep, lit_d, lit_o, lit_do, lit_od, lit_e, L2.start, wipe, and_assoc, tAndV, tOrV, tNoPart, Int.ofNat_inj, iRng2]
          exact ⟨by omega, r⟩
        · intro i σ H3 hi hP3
          obtain ⟨acc3, y4, y5, y6, rfl, h3p, e3', hd3⟩ := (hK3 _ _ _).mp hP3
          have ei : (1 : Int) + (i : Int) = ((i + 1 : Nat) : Int) := by omega
          obtain ⟨i1, hi1⟩ : ∃ i1, i1 = i + 1 := ⟨_, rfl⟩
          rw [ei, ← hi1]
          have hs1 : in1 u t i1 = in1 u t i ++ in2 u t i (n - 1) := by
            rw [hi1, ← hn1]
            exact fl_succ _ i
          rw [hs1]
          simp [tSeq, tIfS, tOr, tAnd, tNot, tB, tCB, tCons, tNil, tVar, tC, tTest, tChain, rI0, rI, tOp, tUn, rU, tRet, tRetN, tNext, rNe, rEq, tAug, tAsg, gName, ipI, tDrop, tIf, tFld, tM1, tTup, tLst, tSl, tPart, rSlS, rIxS, tCall, tMeth, tProp, tMake, gTup, gCons, gNil, tPar, rAppend, tyV, tThen, tNotN, tIsN, tNotV, tRg1, tLstRg, scal, flds_word, gSub, tBM, S_len, S_app, S_count, S_take, S_drop, S_cut, S_rep, lit_d, lit_o, lit_do, lit_od, lit_e, L2.start, wipe, and_assoc, tAndV, tOrV, tNoPart, Int.ofNat_inj]
          have hq3 : in0 u t ++ in1 u t i = in0 u t ++ (in1 u t i ++ in2 u t i 0) := by rw [show in2 u t i 0 = [] from rfl, List.append_nil]
          obtain ⟨K4, hK4⟩ : ∃ K4 : List (Pull × Wd) → L2.St → Hp → Prop, ∀ ds σ H2, K4 ds σ H2 ↔ ∃ (acc : List V) (x5 x6 : Option V), σ = [some (.str (S u)), some (.ref p), some (.int (n : Int)), some (.int (t1 : Int)), some (.int (i1 : Int)), x5, x6] ∧ H2 p = some (.lst acc) ∧ SX [p] H H2 ∧ DpAll K (nwx [p] H H2) acc (ds.map dLP) := ⟨_, fun _ _ _ => Iff.rfl⟩
          refine forJ (Itr 1 (n - 1)) _ (fun R r => ?_) (for_range (n := n - 1) (fun j σ H2 => K4 (in0 u t ++ (in1 u t i ++ in2 u t i j)) σ H2) ((hK4 _ _ _).mpr ⟨acc3, _, _, rfl, h3p, e3', by rw [← hq3]; exact hd3⟩) ?_ ?_)
          · simp [tSeq, tIfS, tOr, tAnd, tNot, tB, tCB, tCons, tNil, tVar, tC, tTest, tChain, rI0, rI, tOp, tUn, rU, tRet, tRetN, tNext, rNe, rEq, tAug, tAsg, gName, ipI, tDrop, tIf, tFld, tM1, tTup, tLst, tSl, tPart, rSlS, rIxS, tCall, tMeth, tProp, tMake, gTup, gCons, gNil, tPar, rAppend, tyV, tThen, tNotN, tIsN, tNotV, tRg1, tLstRg, scal, flds_word, gSub, tBM, S_len, S_app, S_count, S_take, S_drop, S_cut, S_rep, lit_d, lit_o, lit_do, lit_od, lit_e, L2.start, wipe, and_assoc, tAndV, tOrV, tNoPart, Int.ofNat_inj, iRng2]
            exact ⟨by omega, r⟩
          · intro j σ H4 hj hP4
            obtain ⟨acc4, z5, z6, rfl, h4p, e4, hd4⟩ := (hK4 _ _ _).mp hP4
            have ej : (1 : Int) + (j : Int) = ((j + 1 : Nat) : Int) := by omega
            obtain ⟨j1, hj1⟩ : ∃ j1, j1 = j + 1 := ⟨_, rfl⟩
            rw [ej, ← hj1]
            have hs2 : in2 u t i j1 = in2 u t i j ++ one u (t1, i1, j1) := by
              rw [hj1, ht1, hi1]
              exact fl_succ _ j
            rw [hs2]
            have hlen : acc4.length + 1 < sizeLine := by
              have g0 := dpA_len hd4
              have g1 := in0_len u t
              have g2 := in1_len u t i
              have g3 := in2_len u t i j
              simp at g0
              have g4 : u.length / 2 - 1 ≤ 5 := by omega
              have g5 : (u.length / 2 - 1) * 1 ≤ 5 := by omega
              have g6 : (u.length / 2 - 1) * ((u.length / 2 - 1) * 1) ≤ 25 := Nat.mul_le_mul g4 g5
              have g7 : t * ((u.length / 2 - 1) * ((u.length / 2 - 1) * 1)) ≤ 12 * 25 := Nat.mul_le_mul (by omega) g6
              have g8 : i * ((u.length / 2 - 1) * 1) ≤ 5 * 5 := Nat.mul_le_mul (by omega) g5
              exact big' (by omega)
            simp [tSeq, tIfS, tOr, tAnd, tNot, tB, tCB, tCons, tNil, tVar, tC, tTest, tChain, rI0, rI, tOp, tUn, rU, tRet, tRetN, tNext, rNe, rEq, tAug, tAsg, gName, ipI, tDrop, tIf, tFld, tM1, tTup, tLst, tSl, tPart, rSlS, rIxS, tCall, tMeth, tProp, tMake, gTup, gCons, gNil, tPar, rAppend, tyV, tThen, tNotN, tIsN, tNotV, tRg1, tLstRg, scal, flds_word, gSub, tBM, S_len, S_app, S_count, S_take, S_drop, S_cut, S_rep, lit_d, lit_o, lit_do, lit_od, lit_e, L2.start, wipe, and_assoc, tAndV, tOrV, tNoPart, Int.ofNat_inj]
            intro c hc
            have e5 := same_new (o := HO.tup [V.int (t1 : Int), V.int (i1 : Int), V.int (j1 : Int)]) hc
            refine ⟨u, .ref c, (t1, i1, j1), rfl, hl, dp_tup upd_same (.cons (.int _) (.cons (.int _) (.cons (.int _) .nil))), by simp; omega, by simp; omega, fun H5 e6 => ?_⟩
            have e7 := e5.trans e6
            have h5p := e7 _ _ h4p
            unfold one
            cases hlp : lawPullM u (t1, i1, j1) with
            | none =>
              simp [tSeq, tIfS, tOr, tAnd, tNot, tB, tCB, tCons, tNil, tVar, tC, tTest, tChain, rI0, rI, tOp, tUn, rU, tRet, tRetN, tNext, rNe, rEq, tAug, tAsg, gName, ipI, tDrop, tIf, tFld, tM1, tTup, tLst, tSl, tPart, rSlS, rIxS, tCall, tMeth, tProp, tMake, gTup, gCons, gNil, tPar, rAppend, tyV, tThen, tNotN, tIsN, tNotV, tRg1, tLstRg, scal, flds_word, gSub, tBM, S_len, S_app, S_count, S_take, S_drop, S_cut, S_rep, lit_d, lit_o, lit_do, lit_od, lit_e, L2.start, wipe, and_assoc, tAndV, tOrV, tNoPart, Int.ofNat_inj, oV]
              exact (hK4 _ _ _).mpr ⟨acc4, _, _, rfl, h5p, e4.trans (SX.of e7), DpAll.same hd4 (nwx_mono (SX.of e7))⟩
            | some w' =>
              have hL : ∀ a b, H5 a = none → upd H5 a (HO.tup [V.int (t1 : Int), V.int (i1 : Int), V.int (j1 : Int)]) b = none → ∃ xs, SqL K (upd (upd H5 a (HO.tup [V.int (t1 : Int), V.int (i1 : Int), V.int (j1 : Int)])) b (HO.tup [V.ref a, V.str (S w')])) p xs := fun a b ha hb => ⟨_, sqL_of (some_new (some_new h5p ha) hb)⟩
              simp [tSeq, tIfS, tOr, tAnd, tNot, tB, tCB, tCons, tNil, tVar, tC, tTest, tChain, rI0, rI, tOp, tUn, rU, tRet, tRetN, tNext, rNe, rEq, tAug, tAsg, gName, ipI, tDrop, tIf, tFld, tM1, tTup, tLst, tSl, tPart, rSlS, rIxS, tCall, tMeth, tProp, tMake, gTup, gCons, gNil, tPar, rAppend, tyV, tThen, tNotN, tIsN, tNotV, tRg1, tLstRg, scal, flds_word, gSub, tBM, S_len, S_app, S_count, S_take, S_drop, S_cut, S_rep, lit_d, lit_o, lit_do, lit_od, lit_e, L2.start, wipe, and_assoc, tAndV, tOrV, tNoPart, Int.ofNat_inj, oV]
              refine ⟨⟨_, sqL_of h5p⟩, fun p1 hp1 p2 hp2 => ?_⟩
              have eN := same_new (o := HO.tup [V.int (t1 : Int), V.int (i1 : Int), V.int (j1 : Int)]) hp1
              have e8 : SX [p] H (upd H5 p1 (HO.tup [V.int (t1 : Int), V.int (i1 : Int), V.int (j1 : Int)])) := (e4.trans (SX.of e7)).trans (SX.of eN)
              have h8p := eN _ _ h5p
              have hX5 : ∀ x ∈ [p], ∃ o, H5 x = some o := by simp [h5p]
              have hX8 : ∀ x ∈ [p], ∃ o, upd H5 p1 (HO.tup [V.int (t1 : Int), V.int (i1 : Int), V.int (j1 : Int)]) x = some o := by simp [h8p]
              obtain ⟨e9, d9⟩ := app_tup (q := p) (xs := [.ref p1, .str (S w')]) (dt := [dPull (t1, i1, j1), .str (S w')]) e8 hX8 (by simp) hp2 (DpAll.same hd4 (nwx_mono (SX.of (e7.trans eN)))) (.cons (dp_tup (nwx_at (new_not hX5 hp1) (new_old (e4.trans (SX.of e7)) hX5 hp1) upd_same) (.cons (.int _) (.cons (.int _) (.cons (.int _) .nil)))) (.cons (.str _) .nil))
              refine ⟨acc4, some_new h8p hp2, by omega, (hK4 _ _ _).mpr ⟨_, _, _, rfl, upd_same, e8.trans e9, ?_⟩⟩
              rw [← List.append_assoc, ← List.append_assoc, List.map_append, List.append_assoc (in0 u t)]
              exact d9
          · intro σ H4 hP4
            obtain ⟨acc4, z5, z6, rfl, h4p, e4, hd4⟩ := (hK4 _ _ _).mp hP4
            exact (hK3 _ _ _).mpr ⟨acc4, _, _, _, rfl, h4p, e4, hd4⟩
        · intro σ H3 hP3
          obtain ⟨acc3, y4, y5, y6, rfl, h3p, e3', hd3⟩ := (hK3 _ _ _).mp hP3
          exact (hKp _ _ _).mpr ⟨acc3, _, _, _, _, rfl, h3p, e3', hd3⟩
      · rw [if_neg c1]
        have : (cut u t t2 == [true, false]) = false := by simpa using c1
        rw [this]
        simp
        exact (hKp _ _ _).mpr ⟨acc, _, _, _, _, rfl, h2p, e2, by simpa using hd⟩
    · intro σ H2 hP
      obtain ⟨acc, x3, x4, x5, x6, rfl, h2p, e2, hd⟩ := (hKp _ _ _).mp hP
      exact ⟨_, rfl, k _ _ (e2.same (by simp [hp])) (dp_lst (by rw [nw_at hp]; exact h2p) (DpAll.same hd nwx_nw))⟩
/-! ### _law_orders -/
theorem nw_mono {H H1 H2 : Hp} (e : Same H1 H2) : Same (nw H H1) (nw H H2) := fun b o h => by
  obtain ⟨g1, g2⟩ := nw_of h
  rw [nw_at g1]
  exact e b o g2
def spLOrders (K : PySem.W.Frag) : Sp := fun vs H Q _ => ∃ (n : Nat), vs = [.int (n : Int)] ∧ n ≤ 6 ∧ ∀ H' v, Same H H' → Dp K (nw H H') v (.list ((ordersM n).map dOrd)) → Q v H'
theorem cl_lorders (T : Txt K mg C) (D : Df K mg "_law_orders" s_l_orders ["_law_many"]) : Cl P w K mg base 1 "_law_orders" ["_law_many"] (spLOrders K) := by
  refine D.cl fun f fd F => F.ok sc_l_orders (fun vs H Q E h => ?_) (fun cdv A outer s H vs Q E hr h => ?_)
  · obtain ⟨n, rfl, _⟩ := h
    rfl
  · obtain ⟨n, rfl, hn, k⟩ := h
    refine ⟨_, (pss_cons (ps_set (i := 1) sc_l_orders.nd rfl (.inl rfl) (pe_lst (pa_cons (pe_tup pa_nil) pa_nil)))
      (pss_cons (ps_for PassesOwn.never rfl (pi_range1 (by rfl) T.range_ (pa_cons (pv 0) pa_nil)) (pg_name (i := 2) sc_l_orders.nd rfl (.inl rfl)) (pss_cons (ps_set (i := 3) sc_l_orders.nd rfl (.inl rfl) (pe_lst pa_nil))
      (pss_cons (ps_for PassesOwn.never rfl (pi_list (pe_callTy call_list_of (by rfl) T.list_ (by decide +kernel) (pa_cons (pv 1) pa_nil))) (pg_name (i := 4) sc_l_orders.nd rfl (.inr rfl)) (pss_one (ps_set (i := 3) sc_l_orders.nd rfl (.inl rfl) (pe_op op_cat (pv 3) (pe_lc (own := [("_law_x", 5)]) (by rfl) sc_l_orders.nd (pi_range1 (by rfl) T.range_ (pa_cons (pv 0) pa_nil)) (blkOk_by (N := ["_law_many", "_law_orders_here", "_law_k", "_law_longer", "_law_order", "_law_x"]) (sc := defScope s_l_orders) (own := [("_law_x", 5)]) (by decide +kernel)) (fun _ _ _ _ _ => pg_name (i := 5) sc_l_orders.nd rfl (.inl rfl)) (fun _ _ _ _ _ => pts_one (pt_cmpR (show OpR _ (compareOp .NotIn) (rIn K true) from op_notIn_seq) (pv 5) (pv 4) (by rfl))) (fun _ _ _ _ _ => (pe_op (show OpR _ (binaryOp .Add) (rCatA K) from op_catA) (pv 4) (pe_tup (pa_cons (pv 5) pa_nil)))))))))
      (pss_one (ps_set (i := 1) sc_l_orders.nd rfl (.inl rfl) (pv 3))))))
      (pss_one (ps_ret (pv 1))))), ?_⟩
    simp [tSeq, tIfS, tOr, tAnd, tNot, tB, tCB, tCons, tNil, tVar, tC, tTest, tChain, rI0, rI, tOp, tUn, rU, tRet, tRetN, tNext, rNe, rEq, tAug, tAsg, gName, ipI, tDrop, tIf, tFld, tM1, tTup, tLst, tSl, tPart, rSlS, rIxS, tCall, tMeth, tProp, tMake, gTup, gCons, gNil, tPar, rAppend, tyV, tThen, tNotN, tIsN, tNotV, tRg1, tLstRg, scal, flds_word, gSub, tBM, S_len, S_app, S_count, S_take, S_drop, S_cut, S_rep, lit_d, lit_o, lit_do, lit_od, lit_e, L2.start, wipe, and_assoc, tAndV, tOrV, tNoPart, Int.ofNat_inj]
    intro p hp q hq
    obtain ⟨hq0, hpq⟩ := new_ne hq
    obtain ⟨Po, hPo⟩ : ∃ Po : Nat → L2.St → Hp → Prop, ∀ i σ H2, Po i σ H2 ↔ ∃ (q : Addr) (acc : List V) (found : List (List Nat)) (x2 x3 x4 x5 : Option V), σ = [some (.int (n : Int)), some (.ref q), x2, x3, x4, x5] ∧ H2 q = some (.lst acc) ∧ Same H H2 ∧ H q = none ∧ DpAll K (nw H H2) acc (found.map dOrd) ∧ found.length ≤ 6 ^ i ∧ (∀ o ∈ found, o.length ≤ i) ∧ ordersGo n (n - i) found = ordersM n := ⟨_, fun _ _ _ => Iff.rfl⟩
    have eA : Same H (upd (upd H p (.tup [])) q (.lst [.ref p])) := (same_new hp).trans (same_new hq)
    refine forJ (Itr 0 n) _ (fun R r => ?_) (for_range (n := n) Po ((hPo _ _ _).mpr ⟨q, _, [[]], none, none, none, none, rfl, upd_same, eA, hq0, .cons (dp_tup (by rw [nw_at hp, upd_ne hpq, upd_same]) .nil) .nil, by simp, by simp, rfl⟩) ?_ ?_)
    · simp [tSeq, tIfS, tOr, tAnd, tNot, tB, tCB, tCons, tNil, tVar, tC, tTest, tChain, rI0, rI, tOp, tUn, rU, tRet, tRetN, tNext, rNe, rEq, tAug, tAsg, gName, ipI, tDrop, tIf, tFld, tM1, tTup, tLst, tSl, tPart, rSlS, rIxS, tCall, tMeth, tProp, tMake, gTup, gCons, gNil, tPar, rAppend, tyV, tThen, tNotN, tIsN, tNotV, tRg1, tLstRg, scal, flds_word, gSub, tBM, S_len, S_app, S_count, S_take, S_drop, S_cut, S_rep, lit_d, lit_o, lit_do, lit_od, lit_e, L2.start, wipe, and_assoc, tAndV, tOrV, tNoPart, Int.ofNat_inj, iRng1]
      exact ⟨by omega, r⟩
    · intro i σ H2 hi hP
      obtain ⟨q, acc, found, x2, x3, x4, x5, rfl, h2q, e2, hq, hd, hfl, hfo, hM⟩ := (hPo _ _ _).mp hP
      have hp6 : (6 : Nat) ^ i ≤ 7776 := Nat.le_trans (Nat.pow_le_pow_right (by decide) (by omega : i ≤ 5)) (by decide)
      simp [tSeq, tIfS, tOr, tAnd, tNot, tB, tCB, tCons, tNil, tVar, tC, tTest, tChain, rI0, rI, tOp, tUn, rU, tRet, tRetN, tNext, rNe, rEq, tAug, tAsg, gName, ipI, tDrop, tIf, tFld, tM1, tTup, tLst, tSl, tPart, rSlS, rIxS, tCall, tMeth, tProp, tMake, gTup, gCons, gNil, tPar, rAppend, tyV, tThen, tNotN, tIsN, tNotV, tRg1, tLstRg, scal, flds_word, gSub, tBM, S_len, S_app, S_count, S_take, S_drop, S_cut, S_rep, lit_d, lit_o, lit_do, lit_od, lit_e, L2.start, wipe, and_assoc, tAndV, tOrV, tNoPart, Int.ofNat_inj]
      intro l hl
      have hlq : l ≠ q := fun c => by rw [c, h2q] at hl; cases hl
      refine ⟨_, rfl, q, rfl, acc, .inl (sqL_of (by rw [upd_ne (Ne.symm hlq)]; exact h2q)), fun c hc => ⟨c, rfl, ⟨_, sqL_of upd_same⟩, ?_⟩⟩
      obtain ⟨hc2, hlc⟩ := new_ne hc
      obtain ⟨B, hB⟩ : ∃ B : Hp, B = upd (upd H2 l (.lst [])) c (.lst acc) := ⟨_, rfl⟩
      rw [← hB]
      have eB : Same H2 B := by
        rw [hB]
        exact (same_new hl).trans (same_new hc)
      have hBl : B l = some (.lst []) := by rw [hB, upd_ne hlc, upd_same]
      have hBc : B c = some (.lst acc) := by rw [hB, upd_same]
      have hcF : nw H B c = some (.lst acc) := by rw [nw_at (none_back e2 hc2)]; exact hBc
      obtain ⟨Pi, hPi⟩ : ∃ Pi : List PyData → L2.St → Hp → Prop, ∀ r σ H3, Pi r σ H3 ↔ ∃ (os : List (List Nat)) (l : Addr) (accL : List V) (lm : List (List Nat)) (x4 x5 : Option V), r = os.map dOrd ∧ σ = [some (.int (n : Int)), some (.ref q), some (.int (i : Int)), some (.ref l), x4, x5] ∧ H3 l = some (.lst accL) ∧ Same B H3 ∧ H l = none ∧ DpAll K (nw H H3) accL (lm.map dOrd) ∧ (∀ o ∈ os, o.length ≤ i) ∧ lm ++ os.flatMap (stepf n) = ordersStep n found := ⟨_, fun _ _ _ => Iff.rfl⟩
      refine for_listD (F := nw H B) (sqL_of hcF) (DpAll.same hd (nw_mono eB)) Pi (fun r σ H3 h => ?_) ((hPi _ _ _).mpr ⟨found, l, [], [], _, _, rfl, rfl, hBl, Same.refl _, none_back e2 hl, .nil, hfo, rfl⟩) ?_ ?_
      · obtain ⟨os, l, accL, lm, y4, y5, _, _, _, e3, _⟩ := (hPi _ _ _).mp h
        exact nw_sub.trans e3
      · intro d r v4 σ H3 hP3 hv4
        obtain ⟨os, l, accL, lm, y4, y5, hos, rfl, h3l, e3, hl0, hd3, hol, hM3⟩ := (hPi _ _ _).mp hP3
        cases os with
        | nil => cases hos
        | cons o os =>
          obtain ⟨rfl, rfl⟩ := List.cons.inj hos
          obtain ⟨a4, xs4, rfl, hs4, hd4⟩ := dp_tupI hv4
          have := ints_dpA _ hd4
          subst this
          have hSm : Same H H3 := (e2.trans eB).trans e3
          have hol1 := hol o (by simp)
          have hlm : lm.length ≤ 46656 := by
            have g1 := congrArg List.length hM3
            have g2 := flat_len n found
            rw [step_flat, List.length_append] at g1
            have g5 : n * found.length ≤ 6 * 7776 := Nat.mul_le_mul hn (Nat.le_trans hfl hp6)
            omega
          simp [tSeq, tIfS, tOr, tAnd, tNot, tB, tCB, tCons, tNil, tVar, tC, tTest, tChain, rI0, rI, tOp, tUn, rU, tRet, tRetN, tNext, rNe, rEq, tAug, tAsg, gName, ipI, tDrop, tIf, tFld, tM1, tTup, tLst, tSl, tPart, rSlS, rIxS, tCall, tMeth, tProp, tMake, gTup, gCons, gNil, tPar, rAppend, tyV, tThen, tNotN, tIsN, tNotV, tRg1, tLstRg, scal, flds_word, gSub, tBM, S_len, S_app, S_count, S_take, S_drop, S_cut, S_rep, lit_d, lit_o, lit_do, lit_od, lit_e, L2.start, wipe, and_assoc, tAndV, tOrV, tNoPart, Int.ofNat_inj]
          refine ⟨_, rfl, _, rfl, by omega, by omega, fun Dl hDl => ?_⟩
          have hDlH := none_back hSm hDl
          have hlD : l ≠ Dl := ne_of_none h3l hDl
          obtain ⟨Rc, hRc⟩ : ∃ Rc : Nat → List V → Hp → Prop, ∀ m acc H4, Rc m acc H4 ↔ Same H3 H4 ∧ DpAll K (nwx [Dl] H H4) acc ((stepf m o).map dOrd) ∧ m ≤ n := ⟨_, fun _ _ _ => Iff.rfl⟩
          refine lc_rangeR (n := n) Rc ((hRc _ _ _).mpr ⟨same_new hDl, .nil, Nat.zero_le _⟩) ?_ ?_
          · intro m acc H4 hm hD4 hR
            obtain ⟨e4, hd4, hmn⟩ := (hRc _ _ _).mp hR
            have h4a : SqT K H4 a4 ((nints o).map V.int) := seqT_same ((nw_sub.trans e3).trans e4) hs4
            have hX : ∀ x ∈ [Dl], ∃ o, H4 x = some o := by simp [hD4]
            have eX : SX [Dl] H H4 := SX.of (hSm.trans e4)
            have hlen : acc.length ≤ n := by
              have g2 := stepf_len m o
              have g3 := dpA_len hd4
              simp at g3
              omega
            simp [LcTurn, LcN, tSeq, tIfS, tOr, tAnd, tNot, tB, tCB, tCons, tNil, tVar, tC, tTest, tChain, rI0, rI, tOp, tUn, rU, tRet, tRetN, tNext, rNe, rEq, tAug, tAsg, gName, ipI, tDrop, tIf, tFld, tM1, tTup, tLst, tSl, tPart, rSlS, rIxS, tCall, tMeth, tProp, tMake, gTup, gCons, gNil, tPar, rAppend, tyV, tThen, tNotN, tIsN, tNotV, tRg1, tLstRg, scal, flds_word, gSub, tBM, S_len, S_app, S_count, S_take, S_drop, S_cut, S_rep, lit_d, lit_o, lit_do, lit_od, lit_e, L2.start, wipe, and_assoc, tAndV, tOrV, tNoPart, Int.ofNat_inj]
            refine ⟨a4, _, rfl, .inr h4a, rfl, flats o, ?_⟩
            rw [inV_ints]
            cases hc : o.contains m
            · have hst : stepf (m + 1) o = stepf m o ++ [o ++ [m]] := by
                unfold stepf
                rw [List.range_succ, List.filter_append, List.map_append]
                congr 1
                rw [List.filter_cons, if_pos (by rw [hc]; rfl)]
                rfl
              simp [tSeq, tIfS, tOr, tAnd, tNot, tB, tCB, tCons, tNil, tVar, tC, tTest, tChain, rI0, rI, tOp, tUn, rU, tRet, tRetN, tNext, rNe, rEq, tAug, tAsg, gName, ipI, tDrop, tIf, tFld, tM1, tTup, tLst, tSl, tPart, rSlS, rIxS, tCall, tMeth, tProp, tMake, gTup, gCons, gNil, tPar, rAppend, tyV, tThen, tNotN, tIsN, tNotV, tRg1, tLstRg, scal, flds_word, gSub, tBM, S_len, S_app, S_count, S_take, S_drop, S_cut, S_rep, lit_d, lit_o, lit_do, lit_od, lit_e, L2.start, wipe, and_assoc, tAndV, tOrV, tNoPart, Int.ofNat_inj]
              intro pt hpt
              have hpt0 := new_old eX hX hpt
              have hptX := new_not hX hpt
              have e5 := same_new (o := HO.tup [V.int (m : Int)]) hpt
              have fin : ∀ (v : V) (H5 : Hp), Same H4 H5 → Dp K (nwx [Dl] H H5) v (dOrd (o ++ [m])) → ∃ acc_1, H5 Dl = some (.lst acc_1) ∧ acc_1.length < sizeLine ∧ ∃ acc_2, upd H5 Dl (.lst (acc_1 ++ [v])) Dl = some (.lst acc_2) ∧ Rc (m + 1) acc_2 (upd H5 Dl (.lst (acc_1 ++ [v]))) := by
                intro v H5 e6 hv5
                refine ⟨acc, e6 _ _ hD4, big' (by omega), _, upd_same, (hRc _ _ _).mpr ⟨same_mut (e4.trans e6) hDl, ?_, by omega⟩⟩
                rw [hst, List.map_append]
                exact (app_val (X := [Dl]) (by simp) (DpAll.same hd4 (nwx_mono (SX.of e6))) hv5).2
              refine ⟨a4, pt, _, _, rfl, rfl, seqT_same e5 h4a, sqT_of upd_same, ?_, ?_, ?_, ?_⟩
              · simp [nints]
                exact big (by omega)
              · intro ho
                have ho : o = [] := by simpa [nints] using ho
                subst ho
                exact fin _ _ e5 (dp_tup (nwx_at hptX hpt0 upd_same) (.cons (.int _) .nil))
              · intro _ h
                cases h
              · intro _ _ p2 hp2
                have e7 := e5.trans (same_new (o := HO.tup ((nints o).map V.int ++ [V.int (m : Int)])) hp2)
                have hp24 := none_back e5 hp2
                have := fin (.ref p2) _ e7 (dp_tup (nwx_at (new_not hX hp24) (new_old eX hX hp24) upd_same) (ds := (nints (o ++ [m])).map PyData.int) ?_)
                · exact this
                · have := dpA_ints (K := K) (H := nwx [Dl] H (upd (upd H4 pt (.tup [V.int (m : Int)])) p2 (.tup ((nints o).map V.int ++ [V.int (m : Int)])))) (nints (o ++ [m]))
                  simpa [nints] using this
            · have hst : stepf (m + 1) o = stepf m o := by
                unfold stepf
                rw [List.range_succ, List.filter_append, List.map_append]
                rw [List.filter_cons, if_neg (by rw [hc]; decide)]
                simp
              simp [hD4]
              exact (hRc _ _ _).mpr ⟨e4, by rw [hst]; exact hd4, by omega⟩
          · intro acc H4 hD4 hR
            obtain ⟨e4, hd4, hmn⟩ := (hRc _ _ _).mp hR
            have h4l := e4 _ _ h3l
            refine ⟨l, Dl, accL, acc, rfl, rfl, h4l, hD4, ?_, fun p5 hp5 => (hPi _ _ _).mpr ⟨os, p5, _, lm ++ stepf n o, _, _, rfl, rfl, upd_same, (e3.trans e4).trans (same_new hp5), none_back (hSm.trans e4) hp5, ?_, fun o' h' => hol o' (by simp [h']), ?_⟩⟩
            · have g3 := dpA_len hd3
              have g4 := dpA_len hd4
              have g6 := stepf_len n o
              simp at g3 g4
              exact big (by omega)
            · rw [List.map_append]
              exact dpA_app (DpAll.same hd3 (nw_mono (e4.trans (same_new hp5)))) (DpAll.same hd4 (nwx_nw.trans (nw_mono (same_new hp5))))
            · rw [← hM3, List.flatMap_cons, List.append_assoc]
      · intro σ H3 hP3
        obtain ⟨os, l, accL, lm, y4, y5, hos, rfl, h3l, e3, hl0, hd3, hol, hM3⟩ := (hPi _ _ _).mp hP3
        cases os with
        | cons o os => cases hos
        | nil =>
          simp [tSeq, tIfS, tOr, tAnd, tNot, tB, tCB, tCons, tNil, tVar, tC, tTest, tChain, rI0, rI, tOp, tUn, rU, tRet, tRetN, tNext, rNe, rEq, tAug, tAsg, gName, ipI, tDrop, tIf, tFld, tM1, tTup, tLst, tSl, tPart, rSlS, rIxS, tCall, tMeth, tProp, tMake, gTup, gCons, gNil, tPar, rAppend, tyV, tThen, tNotN, tIsN, tNotV, tRg1, tLstRg, scal, flds_word, gSub, tBM, S_len, S_app, S_count, S_take, S_drop, S_cut, S_rep, lit_d, lit_o, lit_do, lit_od, lit_e, L2.start, wipe, and_assoc, tAndV, tOrV, tNoPart, Int.ofNat_inj]
          simp at hM3
          have hlen : lm.length ≤ 6 ^ (i + 1) := by
            rw [hM3, step_flat]
            refine Nat.le_trans (flat_len n found) ?_
            rw [Nat.pow_succ, Nat.mul_comm]
            exact Nat.mul_le_mul hfl hn
          refine (hPo _ _ _).mpr ⟨l, accL, lm, _, _, _, _, rfl, h3l, (e2.trans eB).trans e3, hl0, hd3, hlen, ?_, ?_⟩
          · intro o' ho'
            rw [hM3, step_flat] at ho'
            obtain ⟨o1, g1, g2⟩ := List.mem_flatMap.mp ho'
            unfold stepf at g2
            obtain ⟨t1, _, rfl⟩ := List.mem_map.mp g2
            have := hfo o1 g1
            simp
            omega
          rw [hM3, ← hM, show n - i = (n - (i + 1)) + 1 from by omega]
          rfl
    · intro σ H2 hP
      obtain ⟨q, acc, found, x2, x3, x4, x5, rfl, h2q, e2, hq, hd, hfl, hfo, hM⟩ := (hPo _ _ _).mp hP
      refine ⟨_, rfl, k _ _ e2 ?_⟩
      rw [Nat.sub_self] at hM
      rw [← hM]
      exact dp_lst (by rw [nw_at hq]; exact h2q) hd
/-! ### _law_undone -/
theorem odGo_lt (w : Wd) : ∀ (n t : Nat), ∀ x ∈ odGo w n t, x < t + n
  | 0, _, x, h => by simp [odGo] at h
  | n + 1, t, x, h => by
    unfold odGo at h
    split at h
    · rcases List.mem_cons.mp h with h | h
      · omega
      · have := odGo_lt w n (t + 1) x h
        omega
    · have := odGo_lt w n (t + 1) x h
      omega
theorem odGo_len (w : Wd) : ∀ (n t : Nat), (odGo w n t).length ≤ n
  | 0, _ => Nat.le_refl _
  | n + 1, t => by
    have := odGo_len w n (t + 1)
    unfold odGo
    split
    · simp
      omega
    · omega
theorem lowM_le (w : Wd) : ∀ f, lowM w f ≤ f
  | 0 => Nat.le_refl _
  | l + 1 => by
    have := lowM_le w l
    unfold lowM
    split <;> omega
theorem bt_t (w : Wd) (i : Nat) (h : i < w.length) : w.getD i true = bt w i := by
  unfold bt
  rw [List.getD_eq_getElem?_getD, List.getD_eq_getElem?_getD, List.getElem?_eq_getElem h]
  rfl
theorem blt_f {a b : Nat} (h : ¬ a < b) : Nat.blt a b = false := by
  cases q : Nat.blt a b with
  | false => rfl
  | true => exact absurd (Nat.blt_eq.mp q) h
theorem bt_f (w : Wd) (i : Nat) : w.getD i false = bt w i := rfl
def spLUn (K : PySem.W.Frag) : Sp := fun vs H Q _ => ∃ (u : Wd) (r : Nat) (x : Wd × Pull), vs = [.str (S u), .int (r : Int)] ∧ u.length ≤ 12 ∧ lawUndoneM u r = some x ∧ ∀ H' v, Same H H' → Dp K (nw H H') v (dUn x) → Q v H'
theorem cl_lundone (T : Txt K mg C) (D : Df K mg "_law_undone" s_l_undone ["_law_word_here", "_law_at"]) : Cl P w K mg base 1 "_law_undone" ["_law_word_here", "_law_at"] (spLUn K) := by
  refine D.cl fun f fd F => F.ok sc_l_undone (fun vs H Q E h => ?_) (fun cdv A outer s H vs Q E hr h => ?_)
  · obtain ⟨u, r, x, rfl, _⟩ := h
    rfl
  · obtain ⟨u, r, x, rfl, hl, hx, k⟩ := h
    unfold lawUndoneM at hx
    split at hx
    · rename_i f hf
      injection hx with hx
      have hz : u.length ≤ sizeLine := big (by omega)
      have hfl : f < u.length := by
        have := odGo_lt u _ _ f (List.mem_of_getElem? hf)
        have g := odGo_len u (u.length - 1) 1
        have : 0 < u.length - 1 := by
          have g2 : r < (odGo u (u.length - 1) 1).length := (List.getElem?_eq_some_iff.mp hf).1
          omega
        omega
      refine ⟨_, (pss_cons (ps_setLc (i := 2) (own := [("_law_t", 8)]) (by rfl) sc_l_undone.nd rfl rfl (sw_true rfl rfl rfl (by decide +kernel)) (pi_range2 (by rfl) T.range_ (pa_cons pe_int (pa_cons (pe_callB call_len_str (by rfl) T.len_ PySem.boot_len (pa_cons (pv 0) pa_nil)) pa_nil))) (blkOk_by (N := ["_law_word_here", "_law_at", "_law_places", "_law_first", "_law_low", "_law_high", "_law_downs", "_law_outs", "_law_t"]) (sc := defScope s_l_undone) (own := [("_law_t", 8)]) (by decide +kernel)) (fun _ _ _ _ _ => pg_name (i := 8) sc_l_undone.nd rfl (.inl rfl)) (fun _ _ _ _ _ => pts_one (pt_cmpR op_eq (pe_slice sl_str (pv 0) (po_some (pe_op op_sub (pv 8) pe_int)) (po_some (pe_op op_add (pv 8) pe_int))) pe_str (nomark _))) (fun _ _ _ _ _ => (pv 8)))
      (pss_cons (ps_set (i := 3) sc_l_undone.nd rfl (.inl rfl) (pe_ix ix_list (pv 2) (pv 1) (fun _ _ => rfl)))
      (pss_cons (ps_par (i := 4) (j := 5) (by rfl) sc_l_undone.nd rfl rfl (by decide) rfl rfl (pa_cons (pv 3) (pa_cons (pv 3) pa_nil)) (by rfl))
      (pss_cons (ps_while PassesOwn.never (PW.pt (pw_and (pt_cmpR op_gt (pv 4) pe_int (nomark _)) (pw_and1 (pt_cmpR op_eq (pe_ix ix_str (pv 0) (pe_op op_sub (pv 4) pe_int) (fun _ _ => rfl)) pe_str (nomark _))))) (pss_one (ps_set (i := 4) sc_l_undone.nd rfl (.inl rfl) (pe_op op_sub (pv 4) pe_int))))
      (pss_cons (ps_while PassesOwn.never (PW.pt (pw_and (pt_cmpR op_lt (pv 5) (pe_callB call_len_str (by rfl) T.len_ PySem.boot_len (pa_cons (pv 0) pa_nil)) (nomark _)) (pw_and1 (pt_cmpR op_eq (pe_ix ix_str (pv 0) (pv 5) (fun _ _ => rfl)) pe_str (nomark _))))) (pss_one (ps_set (i := 5) sc_l_undone.nd rfl (.inl rfl) (pe_op op_add (pv 5) pe_int))))
      (pss_cons (ps_par (i := 6) (j := 7) (by rfl) sc_l_undone.nd rfl rfl (by decide) rfl rfl (pa_cons (pe_op op_sub (pv 5) (pv 3)) (pa_cons (pe_op op_sub (pv 3) (pv 4)) pa_nil)) (by rfl))
      (pss_one (ps_ret (pe_tup (pa_cons (pe_op op_add_str (pe_op op_add_str (pe_op op_add_str (pe_slice sl_str (pv 0) po_none (po_some (pv 4))) (pe_op K12R.op_mulS pe_str (pv 6))) (pe_op K12R.op_mulS pe_str (pv 7))) (pe_slice sl_str (pv 0) (po_some (pv 5)) po_none)) (pa_cons (pe_tup (pa_cons (pe_op op_add (pv 4) (pv 6)) (pa_cons (pv 6) (pa_cons (pv 7) pa_nil)))) pa_nil))))))))))), ?_⟩
      simp [tSeq, tIfS, tOr, tAnd, tNot, tB, tCB, tCons, tNil, tVar, tC, tTest, tChain, rI0, rI, tOp, tUn, rU, tRet, tRetN, tNext, rNe, rEq, tAug, tAsg, gName, ipI, tDrop, tIf, tFld, tM1, tTup, tLst, tSl, tPart, rSlS, rIxS, tCall, tMeth, tProp, tMake, gTup, gCons, gNil, tPar, rAppend, tyV, tThen, tNotN, tIsN, tNotV, tRg1, tLstRg, scal, flds_word, gSub, tBM, S_len, S_app, S_count, S_take, S_drop, S_cut, S_rep, lit_d, lit_o, lit_do, lit_od, lit_e, L2.start, wipe, and_assoc, tAndV, tOrV, tNoPart, Int.ofNat_inj]
      refine lcJ (Itr 1 (u.length - 1)) H (fun R r => by simp [tSeq, tIfS, tOr, tAnd, tNot, tB, tCB, tCons, tNil, tVar, tC, tTest, tChain, rI0, rI, tOp, tUn, rU, tRet, tRetN, tNext, rNe, rEq, tAug, tAsg, gName, ipI, tDrop, tIf, tFld, tM1, tTup, tLst, tSl, tPart, rSlS, rIxS, tCall, tMeth, tProp, tMake, gTup, gCons, gNil, tPar, rAppend, tyV, tThen, tNotN, tIsN, tNotV, tRg1, tLstRg, scal, flds_word, gSub, tBM, S_len, S_app, S_count, S_take, S_drop, S_cut, S_rep, lit_d, lit_o, lit_do, lit_od, lit_e, L2.start, wipe, and_assoc, tAndV, tOrV, tNoPart, Int.ofNat_inj, iRng2]; exact ⟨hz, by omega, r⟩) fun D hD => ?_
      obtain ⟨Rc, hRc⟩ : ∃ Rc : Nat → List V → Hp → Prop, ∀ m acc H4, Rc m acc H4 ↔ Same H H4 ∧ ∃ ds : List Nat, acc = (nints ds).map V.int ∧ ds ++ odGo u (u.length - 1 - m) (m + 1) = odM u ∧ m ≤ u.length - 1 := ⟨_, fun _ _ _ => Iff.rfl⟩
      refine lc_rangeR (n := u.length - 1) Rc ((hRc _ _ _).mpr ⟨same_new hD, [], rfl, rfl, Nat.zero_le _⟩) ?_ ?_
      · intro m acc H4 hm hD4 hR
        obtain ⟨e4, ds, rfl, hod, hmn⟩ := (hRc _ _ _).mp hR
        obtain ⟨m1, hm1⟩ : ∃ m1, m1 = m + 1 := ⟨_, rfl⟩
        obtain ⟨m2, hm2⟩ : ∃ m2, m2 = m1 + 1 := ⟨_, rfl⟩
        have e1 : (1 : Int) + (m : Int) = (m1 : Int) := by omega
        have e2 : (m1 : Int) - 1 = (m : Int) := by omega
        have e3 : (m1 : Int) + 1 = (m2 : Int) := by omega
        rw [show u.length - 1 - m = (u.length - 1 - m1) + 1 from by omega, ← hm1] at hod
        have hod' : ds ++ (if cut u m m2 == [false, true] then m1 :: odGo u (u.length - 1 - m1) m2 else odGo u (u.length - 1 - m1) m2) = odM u := by
          rw [← hod, hm2]
          show _ = ds ++ (if cut u (m1 - 1) (m1 + 1) == [false, true] then m1 :: odGo u (u.length - 1 - m1) (m1 + 1) else odGo u (u.length - 1 - m1) (m1 + 1))
          rw [show m1 - 1 = m from by omega]
        have hdl : ds.length ≤ 12 := by
          have g1 := congrArg List.length hod
          have g2 := odGo_len u (u.length - 1) 1
          simp at g1
          unfold odM at g1
          omega
        rw [e1]
        simp [LcTurn, LcN, tSeq, tIfS, tOr, tAnd, tNot, tB, tCB, tCons, tNil, tVar, tC, tTest, tChain, rI0, rI, tOp, tUn, rU, tRet, tRetN, tNext, rNe, rEq, tAug, tAsg, gName, ipI, tDrop, tIf, tFld, tM1, tTup, tLst, tSl, tPart, rSlS, rIxS, tCall, tMeth, tProp, tMake, gTup, gCons, gNil, tPar, rAppend, tyV, tThen, tNotN, tIsN, tNotV, tRg1, tLstRg, scal, flds_word, gSub, tBM, S_len, S_app, S_count, S_take, S_drop, S_cut, S_rep, lit_d, lit_o, lit_do, lit_od, lit_e, L2.start, wipe, and_assoc, tAndV, tOrV, tNoPart, Int.ofNat_inj, e2, e3, hz]
        by_cases c1 : cut u m m2 = [false, true]
        · rw [if_pos (beq_iff_eq.mpr c1)] at hod'
          simp [c1]
          refine ⟨_, hD4, ?_, _, upd_same, (hRc _ _ _).mpr ⟨same_mut e4 hD, ds ++ [m1], ?_, ?_, by omega⟩⟩
          · simp [nints]
            exact big' (by omega)
          · simp [nints]
          · rw [List.append_assoc, ← hm1, ← hm2]
            exact hod'
        · rw [if_neg (fun z => c1 (beq_iff_eq.mp z))] at hod'
          simp [c1]
          refine ⟨_, hD4, (hRc _ _ _).mpr ⟨e4, ds, rfl, ?_, by omega⟩⟩
          rw [← hm1, ← hm2]
          exact hod'
      · intro acc H4 hD4 hR
        obtain ⟨e4, ds, rfl, hod, hmn⟩ := (hRc _ _ _).mp hR
        rw [Nat.sub_self] at hod
        simp [odGo] at hod
        subst hod
        refine rIxL_i (sqL_of hD4) (at_lt (v := .int (f : Int)) (by rw [List.getElem?_map, nints_get hf]; rfl)) ?_
        obtain ⟨W1, hW1⟩ : ∃ W1 : Nat → L2.St → Hp → Prop, ∀ m σ H5, W1 m σ H5 ↔ H5 = H4 ∧ m ≤ f ∧ lowM u m = lowM u f ∧ σ = [some (.str (S u)), some (.int (r : Int)), some (.ref D), some (.int (f : Int)), some (.int (m : Int)), some (.int (f : Int)), none, none, none] := ⟨_, fun _ _ _ => Iff.rfl⟩
        refine ⟨W1, ⟨f, (hW1 _ _ _).mpr ⟨rfl, Nat.le_refl _, rfl, rfl⟩⟩, ?_⟩
        intro low σ H5 hP1
        obtain ⟨rfl, hlf, hlw, rfl⟩ := (hW1 _ _ _).mp hP1
        by_cases cl : 0 < low
        · obtain ⟨l1, rfl⟩ : ∃ l1, low = l1 + 1 := ⟨low - 1, by omega⟩
          obtain ⟨low, hlo⟩ : ∃ low, low = l1 + 1 := ⟨_, rfl⟩
          rw [← hlo] at hlf hlw cl
          rw [← hlo]
          have es0 : (low : Int) - 1 = (l1 : Int) := by omega
          have a1 := bt_at u (i := l1) (by omega)
          have cl' : (0 : Int) < (low : Int) := by omega
          have cl2 : ¬ (low : Int) ≤ 0 := by omega
          have cl3 : ¬ low = 0 := by omega
          have cl4 : ¬ low ≤ 0 := by omega
          have hst : lowM u low = if bt u l1 = true then low else lowM u l1 := by
            rw [hlo]
            show (if u.getD l1 true then l1 + 1 else lowM u l1) = _
            rw [bt_t u l1 (by omega)]
          by_cases cb : bt u l1 = true
          · simp [tSeq, tIfS, tOr, tAnd, tNot, tB, tCB, tCons, tNil, tVar, tC, tTest, tChain, rI0, rI, tOp, tUn, rU, tRet, tRetN, tNext, rNe, rEq, tAug, tAsg, gName, ipI, tDrop, tIf, tFld, tM1, tTup, tLst, tSl, tPart, rSlS, rIxS, tCall, tMeth, tProp, tMake, gTup, gCons, gNil, tPar, rAppend, tyV, tThen, tNotN, tIsN, tNotV, tRg1, tLstRg, scal, flds_word, gSub, tBM, S_len, S_app, S_count, S_take, S_drop, S_cut, S_rep, lit_d, lit_o, lit_do, lit_od, lit_e, L2.start, wipe, and_assoc, tAndV, tOrV, tNoPart, Int.ofNat_inj, cl', cl, cl2, cl3, cl4, hz, es0, a1, cb]
            have hlow : lowM u f = low := by rw [← hlw, hst, if_pos cb]
            obtain ⟨W2, hW2⟩ : ∃ W2 : Nat → L2.St → Hp → Prop, ∀ m σ H6, W2 m σ H6 ↔ ∃ hi : Nat, H6 = H5 ∧ m = u.length - hi ∧ f ≤ hi ∧ hi ≤ u.length ∧ (∃ kk, highM u kk hi = highM u u.length f ∧ u.length ≤ kk + hi) ∧ σ = [some (.str (S u)), some (.int (r : Int)), some (.ref D), some (.int (f : Int)), some (.int (low : Int)), some (.int (hi : Int)), none, none, none] := ⟨_, fun _ _ _ => Iff.rfl⟩
            refine ⟨W2, ⟨u.length - f, (hW2 _ _ _).mpr ⟨f, rfl, rfl, Nat.le_refl _, by omega, ⟨u.length, rfl, by omega⟩, rfl⟩⟩, ?_⟩
            intro m2 σ2 H6 hP2
            obtain ⟨hi, rfl, rfl, hfh, hhl, ⟨kk, hkk, hkl⟩, rfl⟩ := (hW2 _ _ _).mp hP2
            by_cases ch : hi < u.length
            · obtain ⟨k1, rfl⟩ : ∃ k1, kk = k1 + 1 := ⟨kk - 1, by omega⟩
              have hstep : highM u (k1 + 1) hi = if bt u hi = true then highM u k1 (hi + 1) else hi := by
                show (if Nat.blt hi u.length && u.getD hi false then highM u k1 (hi + 1) else hi) = _
                rw [show Nat.blt hi u.length = true from Nat.blt_eq.mpr ch, Bool.true_and]
                rfl
              have a2 := bt_at u ch
              have ch' : (hi : Int) < (u.length : Int) := by omega
              by_cases cb : bt u hi = true
              · simp [tSeq, tIfS, tOr, tAnd, tNot, tB, tCB, tCons, tNil, tVar, tC, tTest, tChain, rI0, rI, tOp, tUn, rU, tRet, tRetN, tNext, rNe, rEq, tAug, tAsg, gName, ipI, tDrop, tIf, tFld, tM1, tTup, tLst, tSl, tPart, rSlS, rIxS, tCall, tMeth, tProp, tMake, gTup, gCons, gNil, tPar, rAppend, tyV, tThen, tNotN, tIsN, tNotV, tRg1, tLstRg, scal, flds_word, gSub, tBM, S_len, S_app, S_count, S_take, S_drop, S_cut, S_rep, lit_d, lit_o, lit_do, lit_od, lit_e, L2.start, wipe, and_assoc, tAndV, tOrV, tNoPart, Int.ofNat_inj, hz, ch', a2, cb]
                refine ⟨fun σ' H' => ∃ m', m' < u.length - hi ∧ W2 m' σ' H', fun σ' H' h => h, u.length - (hi + 1), by omega, (hW2 _ _ _).mpr ⟨hi + 1, rfl, rfl, by omega, by omega, ⟨k1, ?_, by omega⟩, ?_⟩⟩
                · rw [← hkk, hstep, if_pos cb]
                · rw [show ((hi + 1 : Nat) : Int) = (hi : Int) + 1 from by omega]
              · have cb0 : bt u hi = false := by simpa using cb
                have hh : highM u u.length f = hi := by rw [← hkk, hstep, if_neg cb]
                obtain ⟨d, hd⟩ : ∃ d, d = hi - f := ⟨_, rfl⟩
                obtain ⟨o, ho⟩ : ∃ o, o = f - low := ⟨_, rfl⟩
                have es1 : (hi : Int) - (f : Int) = (d : Int) := by omega
                have es2 : (f : Int) - (low : Int) = (o : Int) := by omega
                simp [tSeq, tIfS, tOr, tAnd, tNot, tB, tCB, tCons, tNil, tVar, tC, tTest, tChain, rI0, rI, tOp, tUn, rU, tRet, tRetN, tNext, rNe, rEq, tAug, tAsg, gName, ipI, tDrop, tIf, tFld, tM1, tTup, tLst, tSl, tPart, rSlS, rIxS, tCall, tMeth, tProp, tMake, gTup, gCons, gNil, tPar, rAppend, tyV, tThen, tNotN, tIsN, tNotV, tRg1, tLstRg, scal, flds_word, gSub, tBM, S_len, S_app, S_count, S_take, S_drop, S_cut, S_rep, lit_d, lit_o, lit_do, lit_od, lit_e, L2.start, wipe, and_assoc, tAndV, tOrV, tNoPart, Int.ofNat_inj, hz, es1, es2, ch', a2, cb0]
                have z1 : ∀ {n : Nat}, n ≤ 100 → n ≤ sizeLine := fun h => big (by omega)
                and_intros
                all_goals first | omega | exact z1 (by omega) | skip
                intro p1 hp1 p2 hp2
                obtain ⟨hp3, ne⟩ := new_ne hp2
                have e3 := e4.trans (same_new (o := HO.tup [V.int ((low : Int) + d), V.int d, V.int o]) hp1)
                have n1 := none_back e4 hp1
                have n2 := none_back e4 hp3
                refine k _ _ (e3.trans (same_new hp2)) ?_
                rw [← hx, hlow, hh]
                refine dp_tup (by rw [nw_at n2, upd_same]) (.cons ?_ (.cons ?_ .nil))
                · rw [show List.take low u ++ (List.replicate d true ++ (List.replicate o false ++ List.drop hi u)) = made u low (List.replicate (hi - f) true ++ List.replicate (f - low) false) hi from by rw [← hd, ← ho]; simp [made]]
                  exact .str _
                · refine dp_tup (by rw [nw_at n1, upd_ne ne, upd_same]) (.cons ?_ (.cons ?_ (.cons ?_ .nil)))
                  · show Dp K _ _ (.int (((low + (hi - f) : Nat)) : Int))
                    rw [show (low : Int) + (d : Int) = ((low + (hi - f) : Nat) : Int) from by omega]
                    exact .int _
                  · rw [hd]
                    exact .int _
                  · rw [ho]
                    exact .int _
            · have ch' : ¬ (hi : Int) < (u.length : Int) := by omega
              have hhi : highM u kk hi = hi := by
                cases kk with
                | zero => rfl
                | succ k1 =>
                  show (if Nat.blt hi u.length && u.getD hi false then highM u k1 (hi + 1) else hi) = _
                  rw [blt_f ch, Bool.false_and]
                  rfl
              have hh : highM u u.length f = hi := by rw [← hkk, hhi]
              obtain ⟨d, hd⟩ : ∃ d, d = hi - f := ⟨_, rfl⟩
              obtain ⟨o, ho⟩ : ∃ o, o = f - low := ⟨_, rfl⟩
              have es1 : (hi : Int) - (f : Int) = (d : Int) := by omega
              have es2 : (f : Int) - (low : Int) = (o : Int) := by omega
              simp [tSeq, tIfS, tOr, tAnd, tNot, tB, tCB, tCons, tNil, tVar, tC, tTest, tChain, rI0, rI, tOp, tUn, rU, tRet, tRetN, tNext, rNe, rEq, tAug, tAsg, gName, ipI, tDrop, tIf, tFld, tM1, tTup, tLst, tSl, tPart, rSlS, rIxS, tCall, tMeth, tProp, tMake, gTup, gCons, gNil, tPar, rAppend, tyV, tThen, tNotN, tIsN, tNotV, tRg1, tLstRg, scal, flds_word, gSub, tBM, S_len, S_app, S_count, S_take, S_drop, S_cut, S_rep, lit_d, lit_o, lit_do, lit_od, lit_e, L2.start, wipe, and_assoc, tAndV, tOrV, tNoPart, Int.ofNat_inj, hz, es1, es2, ch']
              have z1 : ∀ {n : Nat}, n ≤ 100 → n ≤ sizeLine := fun h => big (by omega)
              and_intros
              all_goals first | omega | exact z1 (by omega) | skip
              intro p1 hp1 p2 hp2
              obtain ⟨hp3, ne⟩ := new_ne hp2
              have e3 := e4.trans (same_new (o := HO.tup [V.int ((low : Int) + d), V.int d, V.int o]) hp1)
              have n1 := none_back e4 hp1
              have n2 := none_back e4 hp3
              refine k _ _ (e3.trans (same_new hp2)) ?_
              rw [← hx, hlow, hh]
              refine dp_tup (by rw [nw_at n2, upd_same]) (.cons ?_ (.cons ?_ .nil))
              · rw [show List.take low u ++ (List.replicate d true ++ (List.replicate o false ++ List.drop hi u)) = made u low (List.replicate (hi - f) true ++ List.replicate (f - low) false) hi from by rw [← hd, ← ho]; simp [made]]
                exact .str _
              · refine dp_tup (by rw [nw_at n1, upd_ne ne, upd_same]) (.cons ?_ (.cons ?_ (.cons ?_ .nil)))
                · show Dp K _ _ (.int (((low + (hi - f) : Nat)) : Int))
                  rw [show (low : Int) + (d : Int) = ((low + (hi - f) : Nat) : Int) from by omega]
                  exact .int _
                · rw [hd]
                  exact .int _
                · rw [ho]
                  exact .int _
          · have cb0 : bt u l1 = false := by simpa using cb
            simp [tSeq, tIfS, tOr, tAnd, tNot, tB, tCB, tCons, tNil, tVar, tC, tTest, tChain, rI0, rI, tOp, tUn, rU, tRet, tRetN, tNext, rNe, rEq, tAug, tAsg, gName, ipI, tDrop, tIf, tFld, tM1, tTup, tLst, tSl, tPart, rSlS, rIxS, tCall, tMeth, tProp, tMake, gTup, gCons, gNil, tPar, rAppend, tyV, tThen, tNotN, tIsN, tNotV, tRg1, tLstRg, scal, flds_word, gSub, tBM, S_len, S_app, S_count, S_take, S_drop, S_cut, S_rep, lit_d, lit_o, lit_do, lit_od, lit_e, L2.start, wipe, and_assoc, tAndV, tOrV, tNoPart, Int.ofNat_inj, cl', cl, cl2, cl3, cl4, hz, es0, a1, cb0]
            refine ⟨fun σ' H' => ∃ m', m' < low ∧ W1 m' σ' H', fun σ' H' h => h, l1, by omega, (hW1 _ _ _).mpr ⟨rfl, by omega, ?_, rfl⟩⟩
            rw [← hlw, hst, if_neg cb]
        · have hl0 : low = 0 := by omega
          have cl' : ¬ (0 : Int) < (low : Int) := by omega
          have cl0 : ¬ 0 < low := by omega
          simp [tSeq, tIfS, tOr, tAnd, tNot, tB, tCB, tCons, tNil, tVar, tC, tTest, tChain, rI0, rI, tOp, tUn, rU, tRet, tRetN, tNext, rNe, rEq, tAug, tAsg, gName, ipI, tDrop, tIf, tFld, tM1, tTup, tLst, tSl, tPart, rSlS, rIxS, tCall, tMeth, tProp, tMake, gTup, gCons, gNil, tPar, rAppend, tyV, tThen, tNotN, tIsN, tNotV, tRg1, tLstRg, scal, flds_word, gSub, tBM, S_len, S_app, S_count, S_take, S_drop, S_cut, S_rep, lit_d, lit_o, lit_do, lit_od, lit_e, L2.start, wipe, and_assoc, tAndV, tOrV, tNoPart, Int.ofNat_inj, eq_false cl', eq_false cl0]
          have hlow : lowM u f = low := by rw [← hlw, hl0]; rfl
          obtain ⟨W2, hW2⟩ : ∃ W2 : Nat → L2.St → Hp → Prop, ∀ m σ H6, W2 m σ H6 ↔ ∃ hi : Nat, H6 = H5 ∧ m = u.length - hi ∧ f ≤ hi ∧ hi ≤ u.length ∧ (∃ kk, highM u kk hi = highM u u.length f ∧ u.length ≤ kk + hi) ∧ σ = [some (.str (S u)), some (.int (r : Int)), some (.ref D), some (.int (f : Int)), some (.int (low : Int)), some (.int (hi : Int)), none, none, none] := ⟨_, fun _ _ _ => Iff.rfl⟩
          refine ⟨W2, ⟨u.length - f, (hW2 _ _ _).mpr ⟨f, rfl, rfl, Nat.le_refl _, by omega, ⟨u.length, rfl, by omega⟩, rfl⟩⟩, ?_⟩
          intro m2 σ2 H6 hP2
          obtain ⟨hi, rfl, rfl, hfh, hhl, ⟨kk, hkk, hkl⟩, rfl⟩ := (hW2 _ _ _).mp hP2
          by_cases ch : hi < u.length
          · obtain ⟨k1, rfl⟩ : ∃ k1, kk = k1 + 1 := ⟨kk - 1, by omega⟩
            have hstep : highM u (k1 + 1) hi = if bt u hi = true then highM u k1 (hi + 1) else hi := by
              show (if Nat.blt hi u.length && u.getD hi false then highM u k1 (hi + 1) else hi) = _
              rw [show Nat.blt hi u.length = true from Nat.blt_eq.mpr ch, Bool.true_and]
              rfl
            have a2 := bt_at u ch
            have ch' : (hi : Int) < (u.length : Int) := by omega
            by_cases cb : bt u hi = true
            · simp [tSeq, tIfS, tOr, tAnd, tNot, tB, tCB, tCons, tNil, tVar, tC, tTest, tChain, rI0, rI, tOp, tUn, rU, tRet, tRetN, tNext, rNe, rEq, tAug, tAsg, gName, ipI, tDrop, tIf, tFld, tM1, tTup, tLst, tSl, tPart, rSlS, rIxS, tCall, tMeth, tProp, tMake, gTup, gCons, gNil, tPar, rAppend, tyV, tThen, tNotN, tIsN, tNotV, tRg1, tLstRg, scal, flds_word, gSub, tBM, S_len, S_app, S_count, S_take, S_drop, S_cut, S_rep, lit_d, lit_o, lit_do, lit_od, lit_e, L2.start, wipe, and_assoc, tAndV, tOrV, tNoPart, Int.ofNat_inj, hz, ch', a2, cb]
              refine ⟨fun σ' H' => ∃ m', m' < u.length - hi ∧ W2 m' σ' H', fun σ' H' h => h, u.length - (hi + 1), by omega, (hW2 _ _ _).mpr ⟨hi + 1, rfl, rfl, by omega, by omega, ⟨k1, ?_, by omega⟩, ?_⟩⟩
              · rw [← hkk, hstep, if_pos cb]
              · rw [show ((hi + 1 : Nat) : Int) = (hi : Int) + 1 from by omega]
            · have cb0 : bt u hi = false := by simpa using cb
              have hh : highM u u.length f = hi := by rw [← hkk, hstep, if_neg cb]
              obtain ⟨d, hd⟩ : ∃ d, d = hi - f := ⟨_, rfl⟩
              obtain ⟨o, ho⟩ : ∃ o, o = f - low := ⟨_, rfl⟩
              have es1 : (hi : Int) - (f : Int) = (d : Int) := by omega
              have es2 : (f : Int) - (low : Int) = (o : Int) := by omega
              simp [tSeq, tIfS, tOr, tAnd, tNot, tB, tCB, tCons, tNil, tVar, tC, tTest, tChain, rI0, rI, tOp, tUn, rU, tRet, tRetN, tNext, rNe, rEq, tAug, tAsg, gName, ipI, tDrop, tIf, tFld, tM1, tTup, tLst, tSl, tPart, rSlS, rIxS, tCall, tMeth, tProp, tMake, gTup, gCons, gNil, tPar, rAppend, tyV, tThen, tNotN, tIsN, tNotV, tRg1, tLstRg, scal, flds_word, gSub, tBM, S_len, S_app, S_count, S_take, S_drop, S_cut, S_rep, lit_d, lit_o, lit_do, lit_od, lit_e, L2.start, wipe, and_assoc, tAndV, tOrV, tNoPart, Int.ofNat_inj, hz, es1, es2, ch', a2, cb0]
              have z1 : ∀ {n : Nat}, n ≤ 100 → n ≤ sizeLine := fun h => big (by omega)
              and_intros
              all_goals first | omega | exact z1 (by omega) | skip
              intro p1 hp1 p2 hp2
              obtain ⟨hp3, ne⟩ := new_ne hp2
              have e3 := e4.trans (same_new (o := HO.tup [V.int ((low : Int) + d), V.int d, V.int o]) hp1)
              have n1 := none_back e4 hp1
              have n2 := none_back e4 hp3
              refine k _ _ (e3.trans (same_new hp2)) ?_
              rw [← hx, hlow, hh]
              refine dp_tup (by rw [nw_at n2, upd_same]) (.cons ?_ (.cons ?_ .nil))
              · rw [show List.take low u ++ (List.replicate d true ++ (List.replicate o false ++ List.drop hi u)) = made u low (List.replicate (hi - f) true ++ List.replicate (f - low) false) hi from by rw [← hd, ← ho]; simp [made]]
                exact .str _
              · refine dp_tup (by rw [nw_at n1, upd_ne ne, upd_same]) (.cons ?_ (.cons ?_ (.cons ?_ .nil)))
                · show Dp K _ _ (.int (((low + (hi - f) : Nat)) : Int))
                  rw [show (low : Int) + (d : Int) = ((low + (hi - f) : Nat) : Int) from by omega]
                  exact .int _
                · rw [hd]
                  exact .int _
                · rw [ho]
                  exact .int _
          · have ch' : ¬ (hi : Int) < (u.length : Int) := by omega
            have hhi : highM u kk hi = hi := by
              cases kk with
              | zero => rfl
              | succ k1 =>
                show (if Nat.blt hi u.length && u.getD hi false then highM u k1 (hi + 1) else hi) = _
                rw [blt_f ch, Bool.false_and]
                rfl
            have hh : highM u u.length f = hi := by rw [← hkk, hhi]
            obtain ⟨d, hd⟩ : ∃ d, d = hi - f := ⟨_, rfl⟩
            obtain ⟨o, ho⟩ : ∃ o, o = f - low := ⟨_, rfl⟩
            have es1 : (hi : Int) - (f : Int) = (d : Int) := by omega
            have es2 : (f : Int) - (low : Int) = (o : Int) := by omega
            simp [tSeq, tIfS, tOr, tAnd, tNot, tB, tCB, tCons, tNil, tVar, tC, tTest, tChain, rI0, rI, tOp, tUn, rU, tRet, tRetN, tNext, rNe, rEq, tAug, tAsg, gName, ipI, tDrop, tIf, tFld, tM1, tTup, tLst, tSl, tPart, rSlS, rIxS, tCall, tMeth, tProp, tMake, gTup, gCons, gNil, tPar, rAppend, tyV, tThen, tNotN, tIsN, tNotV, tRg1, tLstRg, scal, flds_word, gSub, tBM, S_len, S_app, S_count, S_take, S_drop, S_cut, S_rep, lit_d, lit_o, lit_do, lit_od, lit_e, L2.start, wipe, and_assoc, tAndV, tOrV, tNoPart, Int.ofNat_inj, hz, es1, es2, ch']
            have z1 : ∀ {n : Nat}, n ≤ 100 → n ≤ sizeLine := fun h => big (by omega)
            and_intros
            all_goals first | omega | exact z1 (by omega) | skip
            intro p1 hp1 p2 hp2
            obtain ⟨hp3, ne⟩ := new_ne hp2
            have e3 := e4.trans (same_new (o := HO.tup [V.int ((low : Int) + d), V.int d, V.int o]) hp1)
            have n1 := none_back e4 hp1
            have n2 := none_back e4 hp3
            refine k _ _ (e3.trans (same_new hp2)) ?_
            rw [← hx, hlow, hh]
            refine dp_tup (by rw [nw_at n2, upd_same]) (.cons ?_ (.cons ?_ .nil))
            · rw [show List.take low u ++ (List.replicate d true ++ (List.replicate o false ++ List.drop hi u)) = made u low (List.replicate (hi - f) true ++ List.replicate (f - low) false) hi from by rw [← hd, ← ho]; simp [made]]
              exact .str _
            · refine dp_tup (by rw [nw_at n1, upd_ne ne, upd_same]) (.cons ?_ (.cons ?_ (.cons ?_ .nil)))
              · show Dp K _ _ (.int (((low + (hi - f) : Nat)) : Int))
                rw [show (low : Int) + (d : Int) = ((low + (hi - f) : Nat) : Int) from by omega]
                exact .int _
              · rw [hd]
                exact .int _
              · rw [ho]
                exact .int _
    · cases hx
/-! ### _law_row -/
theorem rgV_nat' (n : Nat) : rgV 0 (n : Int) = (nints (List.range n)).map V.int := by
  unfold rgV nints
  rw [List.map_map, show ((n : Int) - 0).toNat = n from by omega]
  refine List.map_congr_left fun i _ => ?_
  show V.int (0 + (i : Int)) = V.int (Int.ofNat i)
  rw [Int.zero_add]
  rfl
def spLRow (K : PySem.W.Frag) : Sp := fun vs H Q _ => ∃ (a : Addr) (u : Wd) (ns : List Nat) (row : List Pull), vs = [.str (S u), .ref a] ∧ SqT K H a ((nints ns).map V.int) ∧ ns.length ≤ 12 ∧ lawRowM u ns = some row ∧ ∀ H' v, Same H H' → Dp K (nw H H') v (dRow row) → Q v H'
theorem cl_lrow (T : Txt K mg C) (clu : Cl P w K mg base 1 "_law_undone" ["_law_word_here", "_law_at"] (spLUn K)) (D : Df K mg "_law_row" s_l_row ["_law_word_here", "_law_order"]) : Cl P w K mg base 2 "_law_row" ["_law_word_here", "_law_order"] (spLRow K) := by
  obtain ⟨f__law_undone, fd__law_undone, F__law_undone, g__law_undone, k__law_undone, b__law_undone⟩ := clu
  refine D.cl fun f fd F => F.ok sc_l_row (fun vs H Q E h => ?_) (fun cdv A outer s H vs Q E hr h => ?_)
  · obtain ⟨a, u, ns, row, rfl, _⟩ := h
    rfl
  · obtain ⟨a, u, ns, row, rfl, hs, hn, hrow, k⟩ := h
    refine ⟨_, (pss_cons (ps_set (i := 2) sc_l_row.nd rfl (.inl rfl) (pe_listRg rfl (by rfl) T.list_ (prg_1 (by rfl) T.range_ (pe_callB call_len_seq (by rfl) T.len_ PySem.boot_len (pa_cons (pv 1) pa_nil)))))
      (pss_cons (ps_set (i := 3) sc_l_row.nd rfl (.inl rfl) (pv 0))
      (pss_cons (ps_set (i := 4) sc_l_row.nd rfl (.inl rfl) (pe_lst pa_nil))
      (pss_cons (ps_for PassesOwn.never rfl (pi_tup (K12R.pe_revT (pv 1))) (pg_name (i := 5) sc_l_row.nd rfl (.inr rfl)) (pss_cons (ps_asg (pe_call F__law_undone (hr.mono (by decide)) (by rfl) g__law_undone k__law_undone b__law_undone .nil pass0 (pa_cons (pv 3) (pa_cons (pe_bm PySem.F.plainAttrs_list PySem.F.slot_list_index PySem.F.type_list_index mt_index (pv 2) (pa_cons (pv 5) pa_nil)) pa_nil))) (pg_tup (n := 2) rfl (pgs_cons (pg_name (i := 3) sc_l_row.nd rfl (.inl rfl)) (pgs_cons (pg_name (i := 6) sc_l_row.nd rfl (.inl rfl)) pgs_nil))))
      (pss_cons (ps_setLc (i := 2) (own := [("_law_x", 7)]) (by rfl) sc_l_row.nd rfl rfl (sw_true rfl rfl rfl (by decide +kernel)) (pi_list (pv 2)) (blkOk_by (N := ["_law_word_here", "_law_order", "_law_left", "_law_here", "_law_pulls_here", "_law_ridge", "_law_pull_here", "_law_x"]) (sc := defScope s_l_row) (own := [("_law_x", 7)]) (by decide +kernel)) (fun _ _ _ _ _ => pg_name (i := 7) sc_l_row.nd rfl (.inl rfl)) (fun _ _ _ _ _ => pts_one (pt_cmpR op_ne (pv 7) (pv 5) (nomark _))) (fun _ _ _ _ _ => (pv 7)))
      (pss_one (ps_set (i := 4) sc_l_row.nd rfl (.inl rfl) (pe_op op_cat (pe_lst (pa_cons (pv 6) pa_nil)) (pv 4)))))))
      (pss_one (ps_ret (pe_tupleOf (by rfl) T.tuple_ (pv 4)))))))), ?_⟩
    simp [tSeq, tIfS, tOr, tAnd, tNot, tB, tCB, tCons, tNil, tVar, tC, tTest, tChain, rI0, rI, tOp, tUn, rU, tRet, tRetN, tNext, rNe, rEq, tAug, tAsg, gName, ipI, tDrop, tIf, tFld, tM1, tTup, tLst, tSl, tPart, rSlS, rIxS, tCall, tMeth, tProp, tMake, gTup, gCons, gNil, tPar, rAppend, tyV, tThen, tNotN, tIsN, tNotV, tRg1, tLstRg, scal, flds_word, gSub, tBM, S_len, S_app, S_count, S_take, S_drop, S_cut, S_rep, lit_d, lit_o, lit_do, lit_od, lit_e, L2.start, wipe, and_assoc, tAndV, tOrV, tNoPart, Int.ofNat_inj]
    refine ⟨_, .inr hs, ?_⟩
    have hnl : (List.map V.int (nints ns)).length = ns.length := by simp [nints]
    rw [hnl, rgV_nat']
    refine ⟨RgOk.of_le (by omega) (by omega) (by omega) (by omega), fun l hl0 q hq => ?_⟩
    obtain ⟨hq0, hlq⟩ := new_ne hq
    obtain ⟨B, hB⟩ : ∃ B : Hp, B = upd (upd H l (.lst ((nints (List.range ns.length)).map V.int))) q (.lst []) := ⟨_, rfl⟩
    rw [← hB]
    have eB : Same H B := by
      rw [hB]
      exact (same_new hl0).trans (same_new hq)
    have hBl : B l = some (.lst ((nints (List.range ns.length)).map V.int)) := by rw [hB]; exact some_new upd_same hq
    have hBq : B q = some (.lst []) := by rw [hB, upd_same]
    refine ⟨_, rfl, a, _, rfl, seqT_same eB hs, fun rv hrv => ⟨rv, rfl, ⟨_, sqT_of upd_same⟩, ?_⟩⟩
    obtain ⟨Pv, hPv⟩ : ∃ Pv : List PyData → L2.St → Hp → Prop, ∀ r σ H2, Pv r σ H2 ↔ ∃ (rs left : List Nat) (w : Wd) (acc : List V) (ps : List Pull) (l q : Addr) (x5 x6 x7 : Option V), r = (nints rs).map PyData.int ∧ σ = [some (.str (S u)), some (.ref a), some (.ref l), some (.str (S w)), some (.ref q), x5, x6, x7] ∧ H2 l = some (.lst ((nints left).map V.int)) ∧ H2 q = some (.lst acc) ∧ Same (upd B rv (.tup ((nints ns).map V.int).reverse)) H2 ∧ DpAll K (nw H H2) acc (ps.map dPull) ∧ left.length ≤ 12 ∧ ps.length + rs.length ≤ 12 ∧ lawRowGo w left rs ps = some row := ⟨_, fun _ _ _ => Iff.rfl⟩
    have hrvF : SqT K (upd B rv (.tup ((nints ns).map V.int).reverse)) rv ((nints ns).map V.int).reverse := sqT_of upd_same
    have hdF : DpAll K (upd B rv (.tup ((nints ns).map V.int).reverse)) ((nints ns).map V.int).reverse ((nints ns.reverse).map PyData.int) := by
      have := dpA_ints (K := K) (H := upd B rv (.tup ((nints ns).map V.int).reverse)) (nints ns.reverse)
      simpa [nints] using this
    refine for_tupD (F := upd B rv (.tup ((nints ns).map V.int).reverse)) hrvF hdF Pv (fun r σ H2 h => ?_) ((hPv _ _ _).mpr ⟨ns.reverse, List.range ns.length, u, [], [], l, q, none, none, none, rfl, rfl, some_new hBl hrv, some_new hBq hrv, Same.refl _, .nil, by simpa using hn, by simpa using hn, hrow⟩) ?_ ?_
    · obtain ⟨_, _, _, _, _, _, _, _, _, _, _, _, _, _, e, _⟩ := (hPv _ _ _).mp h
      exact e
    · intro d r v σ H2 hP hv
      obtain ⟨rs, left, w0, acc, ps, l, q, x5, x6, x7, hrs, rfl, h2l, h2q, e2, hd, hll, hpl, hg⟩ := (hPv _ _ _).mp hP
      cases rs with
      | nil => cases hrs
      | cons t rs =>
        have hrs : d = .int (t : Int) ∧ r = (nints rs).map PyData.int := by
          obtain ⟨g1, g2⟩ := List.cons.inj hrs
          exact ⟨g1, g2⟩
        obtain ⟨rfl, rfl⟩ := hrs
        cases dp_intI hv
        have eH2 : Same H H2 := (eB.trans (same_new hrv)).trans e2
        unfold lawRowGo at hg
        split at hg
        · rename_i hc
          simp only [Bool.and_eq_true] at hc
          split at hg
          · rename_i w' pl hun
            have hw12 : w0.length ≤ 12 := Nat.le_of_ble_eq_true hc.1
            obtain ⟨i1, i2⟩ := idx_spec left t hc.2
            have hL : ∃ xs, SqL K H2 l xs := ⟨_, sqL_of h2l⟩
            simp [tSeq, tIfS, tOr, tAnd, tNot, tB, tCB, tCons, tNil, tVar, tC, tTest, tChain, rI0, rI, tOp, tUn, rU, tRet, tRetN, tNext, rNe, rEq, tAug, tAsg, gName, ipI, tDrop, tIf, tFld, tM1, tTup, tLst, tSl, tPart, rSlS, rIxS, tCall, tMeth, tProp, tMake, gTup, gCons, gNil, tPar, rAppend, tyV, tThen, tNotN, tIsN, tNotV, tRg1, tLstRg, scal, flds_word, gSub, tBM, S_len, S_app, S_count, S_take, S_drop, S_cut, S_rep, lit_d, lit_o, lit_do, lit_od, lit_e, L2.start, wipe, and_assoc, tAndV, tOrV, tNoPart, Int.ofNat_inj, hL]
            refine ⟨l, _, _, left.idxOf t, .int (t : Int), rfl, rfl, sqL_of h2l, rfl, flats left, by rw [List.getElem?_map, nints_get i1]; rfl, by simp [eqV], ?_, ?_⟩
            · intro m z' hm hz
              rw [List.getElem?_map] at hz
              have := nints_ne (i2 m hm)
              cases e : (nints left)[m]? with
              | none => rw [e] at hz; cases hz
              | some z =>
                rw [e] at hz this
                cases hz
                simp [eqV]
                intro c
                exact this (by rw [c])
            · refine ⟨w0, left.idxOf t, (w', pl), rfl, hw12, hun, fun H3 v e3 hv => ?_⟩
              obtain ⟨a3, xs3, rfl, hs3, hd3⟩ := dp_tupI hv
              cases hd3 with
              | cons d1 hd3 => cases hd3 with
                | cons d2 hd3 =>
                  cases hd3
                  cases dp_strI d1
                  rename_i v2
                  refine ⟨a3, rfl, _, seqT_same nw_sub hs3, rfl, _, _, rfl, _, _, rfl, rfl, ?_⟩
                  have h3l := e3 _ _ h2l
                  have h3q := e3 _ _ h2q
                  refine ⟨_, rfl, l, rfl, ⟨_, sqL_of h3l⟩, fun Dl hDl => ?_⟩
                  obtain ⟨Rc, hRc⟩ : ∃ Rc : List PyData → List V → Hp → Prop, ∀ r acc H4, Rc r acc H4 ↔ Same H3 H4 ∧ ∃ ls done : List Nat, r = (nints ls).map PyData.int ∧ acc = (nints done).map V.int ∧ done ++ (ls.filter fun x => !(Nat.beq x t)) = left.filter (fun x => !(Nat.beq x t)) := ⟨_, fun _ _ _ => Iff.rfl⟩
                  refine lc_listR (F := H3) (sqL_of h3l) (dpA_ints _) Rc (fun r acc H4 h => ((hRc _ _ _).mp h).1) ((hRc _ _ _).mpr ⟨same_new hDl, left, [], rfl, rfl, rfl⟩) ?_ ?_
                  · intro d r acc v H4 hD4 hR hv
                    obtain ⟨e4, ls, done, hls, rfl, hfl⟩ := (hRc _ _ _).mp hR
                    cases ls with
                    | nil => cases hls
                    | cons x ls =>
                      have hls : d = .int (x : Int) ∧ r = (nints ls).map PyData.int := by
                        obtain ⟨g1, g2⟩ := List.cons.inj hls
                        exact ⟨g1, g2⟩
                      obtain ⟨rfl, rfl⟩ := hls
                      cases dp_intI hv
                      have hdn : done.length ≤ 12 := by
                        have g1 := congrArg List.length hfl
                        have g2 := List.length_filter_le (fun x => !(Nat.beq x t)) left
                        rw [List.length_append] at g1
                        omega
                      simp [LcTurn, LcN, tSeq, tIfS, tOr, tAnd, tNot, tB, tCB, tCons, tNil, tVar, tC, tTest, tChain, rI0, rI, tOp, tUn, rU, tRet, tRetN, tNext, rNe, rEq, tAug, tAsg, gName, ipI, tDrop, tIf, tFld, tM1, tTup, tLst, tSl, tPart, rSlS, rIxS, tCall, tMeth, tProp, tMake, gTup, gCons, gNil, tPar, rAppend, tyV, tThen, tNotN, tIsN, tNotV, tRg1, tLstRg, scal, flds_word, gSub, tBM, S_len, S_app, S_count, S_take, S_drop, S_cut, S_rep, lit_d, lit_o, lit_do, lit_od, lit_e, L2.start, wipe, and_assoc, tAndV, tOrV, tNoPart, Int.ofNat_inj, hD4]
                      by_cases hxt : x = t
                      · subst hxt
                        rw [List.filter_cons, if_neg (by simp)] at hfl
                        simp
                        exact (hRc _ _ _).mpr ⟨e4, ls, done, rfl, rfl, hfl⟩
                      · have hb : Nat.beq x t = false := by
                          cases q : Nat.beq x t with
                          | false => rfl
                          | true => exact absurd (Nat.eq_of_beq_eq_true q) hxt
                        rw [List.filter_cons, if_pos (by rw [hb]; rfl)] at hfl
                        have hxi : ¬ (x : Int) = (t : Int) := by omega
                        simp [hxi, hxt]
                        exact ⟨by simp [nints]; exact big' (by omega), _, upd_same, (hRc _ _ _).mpr ⟨same_mut e4 hDl, ls, done ++ [x], rfl, by simp [nints], by rw [List.append_assoc]; exact hfl⟩⟩
                  · intro acc' H4 hD4 hR
                    obtain ⟨e4, ls, done, hls, rfl, hfl⟩ := (hRc _ _ _).mp hR
                    cases ls with
                    | cons x ls => cases hls
                    | nil =>
                      simp at hfl
                      have h4q := e4 _ _ h3q
                      simp [tSeq, tIfS, tOr, tAnd, tNot, tB, tCB, tCons, tNil, tVar, tC, tTest, tChain, rI0, rI, tOp, tUn, rU, tRet, tRetN, tNext, rNe, rEq, tAug, tAsg, gName, ipI, tDrop, tIf, tFld, tM1, tTup, tLst, tSl, tPart, rSlS, rIxS, tCall, tMeth, tProp, tMake, gTup, gCons, gNil, tPar, rAppend, tyV, tThen, tNotN, tIsN, tNotV, tRg1, tLstRg, scal, flds_word, gSub, tBM, S_len, S_app, S_count, S_take, S_drop, S_cut, S_rep, lit_d, lit_o, lit_do, lit_od, lit_e, L2.start, wipe, and_assoc, tAndV, tOrV, tNoPart, Int.ofNat_inj]
                      intro p1 hp1
                      refine ⟨p1, q, [v2], acc, rfl, rfl, upd_same, some_new h4q hp1, ?_, fun p2 hp2 => ?_⟩
                      · have := dpA_len hd
                        simp at this hpl ⊢
                        exact big (by omega)
                      · have e5 := (e4.trans (same_new (o := HO.lst [v2]) hp1)).trans (same_new (o := HO.lst ([v2] ++ acc)) hp2)
                        refine (hPv _ _ _).mpr ⟨rs, left.filter (fun x => !(Nat.beq x t)), w', [v2] ++ acc, pl :: ps, Dl, p2, _, _, _, rfl, rfl, ?_, upd_same, (e2.trans e3).trans e5, ?_, ?_, by simp at hpl ⊢; omega, hg⟩
                        · rw [← hfl]
                          exact some_new (some_new hD4 hp1) hp2
                        · exact .cons (Dp.same d2 ((nw_nwx (X := []) (SX.of eH2) (by simp)).trans (nwx_nw.trans (nw_mono e5)))) (DpAll.same hd (nw_mono (e3.trans e5)))
                        · exact Nat.le_trans (List.length_filter_le _ _) hll
          · cases hg
        · cases hg
    · intro σ H2 hP
      obtain ⟨rs, left, w0, acc, ps, l, q, x5, x6, x7, hrs, rfl, h2l, h2q, e2, hd, hll, hpl, hg⟩ := (hPv _ _ _).mp hP
      have eH2 : Same H H2 := (eB.trans (same_new hrv)).trans e2
      cases rs with
      | cons t rs => cases hrs
      | nil =>
        unfold lawRowGo at hg
        injection hg with hg
        subst hg
        refine ⟨_, rfl, kTup_l (sqL_of h2q) fun t ht => k _ _ (eH2.trans (same_new ht)) ?_⟩
        exact dp_tup (by rw [nw_at (none_back eH2 ht), upd_same]) (DpAll.same hd (nw_mono (same_new ht)))
/-! ### _law_plain -/
def spPlain (K : PySem.W.Frag) : Sp := fun vs H Q _ => ∃ (v : V) (row : List Pull), vs = [v] ∧ Dp K H v (dRow row) ∧ ∀ H', Same H H' → Q (.bl true) H'
theorem cl_plain (T : Txt K mg C) (D : Df K mg "_law_plain" s_l_plain ["_law_row_here"]) : Cl P w K mg base 1 "_law_plain" ["_law_row_here"] (spPlain K) := by
  refine D.cl fun f fd F => F.ok sc_l_plain (fun vs H Q E h => ?_) (fun cdv A outer s H vs Q E hr h => ?_)
  · obtain ⟨v, row, rfl, _⟩ := h
    rfl
  · obtain ⟨v, row, rfl, hv, k⟩ := h
    obtain ⟨a, xs, rfl, hs, hd⟩ := dp_tupI hv
    refine ⟨_, (pss_cons (ps_if (pt_not (pt_val (pe_callB call_isi (by rfl) T.isinstance_ (by decide +kernel) (pa_cons (pv 0) (pa_cons (pe_bltn (v := .ty "tuple") (u := .type "tuple") (by rfl) T.tuple_ (by decide +kernel) rfl) pa_nil))))) (pss_one (ps_ret pe_bl)) pss_nil)
      (pss_cons (ps_for PassesOwn.never rfl (pi_tup (pv 0)) (pg_name (i := 1) sc_l_plain.nd rfl (.inl rfl)) (pss_one (ps_if (PW.pt (pw_or (pt_not (pt_val (pe_callB call_isi (by rfl) T.isinstance_ (by decide +kernel) (pa_cons (pv 1) (pa_cons (pe_bltn (v := .ty "tuple") (u := .type "tuple") (by rfl) T.tuple_ (by decide +kernel) rfl) pa_nil))))) (pw_or (pt_cmpR op_ne (pe_callB call_len_seq (by rfl) T.len_ PySem.boot_len (pa_cons (pv 1) pa_nil)) pe_int (nomark _)) (pw_or1 (pt_truth (pe_lc (own := [("_law_x", 2)]) (by rfl) sc_l_plain.nd (pi_tup (pv 1)) (blkOk_by (N := ["_law_row_here", "_law_pull_here", "_law_x"]) (sc := defScope s_l_plain) (own := [("_law_x", 2)]) (by decide +kernel)) (fun _ _ _ _ _ => pg_name (i := 2) sc_l_plain.nd rfl (.inl rfl)) (fun _ _ _ _ _ => pts_one (PW.pt (pw_or (pt_val (pe_callB (show CallR _ (.builtin "isinstance") (rIsi K) from call_isi) (by rfl) T.isinstance_ (by decide +kernel) (pa_cons (pv 2) (pa_cons (pe_bltn (v := .ty "bool") (u := .type "bool") (by rfl) T.bool_ (by decide +kernel) rfl) pa_nil)))) (pw_or1 (pt_not (pt_val (pe_callB (show CallR _ (.builtin "isinstance") (rIsi K) from call_isi) (by rfl) T.isinstance_ (by decide +kernel) (pa_cons (pv 2) (pa_cons (pe_bltn (v := .ty "int") (u := .type "int") (by rfl) T.int_ (by decide +kernel) rfl) pa_nil))))))))) (fun _ _ _ _ _ => (pv 2))) (by intro _; rfl)))))) (pss_one (ps_ret pe_bl)) pss_nil)))
      (pss_one (ps_ret pe_bl)))), ?_⟩
    simp [tSeq, tIfS, tOr, tAnd, tNot, tB, tCB, tCons, tNil, tVar, tC, tTest, tChain, rI0, rI, tOp, tUn, rU, tRet, tRetN, tNext, rNe, rEq, tAug, tAsg, gName, ipI, tDrop, tIf, tFld, tM1, tTup, tLst, tSl, tPart, rSlS, rIxS, tCall, tMeth, tProp, tMake, gTup, gCons, gNil, tPar, rAppend, tyV, tThen, tNotN, tIsN, tNotV, tRg1, tLstRg, scal, flds_word, gSub, tBM, S_len, S_app, S_count, S_take, S_drop, S_cut, S_rep, lit_d, lit_o, lit_do, lit_od, lit_e, L2.start, wipe, and_assoc, tAndV, tOrV, tNoPart, Int.ofNat_inj]
    refine isi_tt hs ?_
    simp [tSeq, tIfS, tOr, tAnd, tNot, tB, tCB, tCons, tNil, tVar, tC, tTest, tChain, rI0, rI, tOp, tUn, rU, tRet, tRetN, tNext, rNe, rEq, tAug, tAsg, gName, ipI, tDrop, tIf, tFld, tM1, tTup, tLst, tSl, tPart, rSlS, rIxS, tCall, tMeth, tProp, tMake, gTup, gCons, gNil, tPar, rAppend, tyV, tThen, tNotN, tIsN, tNotV, tRg1, tLstRg, scal, flds_word, gSub, tBM, S_len, S_app, S_count, S_take, S_drop, S_cut, S_rep, lit_d, lit_o, lit_do, lit_od, lit_e, L2.start, wipe, and_assoc, tAndV, tOrV, tNoPart, Int.ofNat_inj]
    obtain ⟨Pv, hPv⟩ : ∃ Pv : List PyData → L2.St → Hp → Prop, ∀ r σ H2, Pv r σ H2 ↔ ∃ (rs : List Pull) (x y : Option V), r = rs.map dPull ∧ σ = [some (.ref a), x, y] ∧ Same H H2 := ⟨_, fun _ _ _ => Iff.rfl⟩
    refine ⟨_, rfl, a, rfl, ⟨_, hs⟩, for_tupD (F := H) hs hd Pv (fun r σ H2 h => ?_) ((hPv _ _ _).mpr ⟨row, none, none, rfl, rfl, Same.refl _⟩) ?_ ?_⟩
    · obtain ⟨_, _, _, _, _, e⟩ := (hPv _ _ _).mp h
      exact e
    · intro d r v σ H2 hP hv
      obtain ⟨rs, x, y, hrs, rfl, e2⟩ := (hPv _ _ _).mp hP
      cases rs with
      | nil => cases hrs
      | cons q rs =>
        obtain ⟨rfl, rfl⟩ := List.cons.inj hrs
        obtain ⟨a4, xs4, rfl, hs4, hd4⟩ := dp_tupI hv
        have := ints_dpA [(q.1 : Int), (q.2.1 : Int), (q.2.2 : Int)] hd4
        subst this
        simp [tSeq, tIfS, tOr, tAnd, tNot, tB, tCB, tCons, tNil, tVar, tC, tTest, tChain, rI0, rI, tOp, tUn, rU, tRet, tRetN, tNext, rNe, rEq, tAug, tAsg, gName, ipI, tDrop, tIf, tFld, tM1, tTup, tLst, tSl, tPart, rSlS, rIxS, tCall, tMeth, tProp, tMake, gTup, gCons, gNil, tPar, rAppend, tyV, tThen, tNotN, tIsN, tNotV, tRg1, tLstRg, scal, flds_word, gSub, tBM, S_len, S_app, S_count, S_take, S_drop, S_cut, S_rep, lit_d, lit_o, lit_do, lit_od, lit_e, L2.start, wipe, and_assoc, tAndV, tOrV, tNoPart, Int.ofNat_inj]
        refine isi_tt (seqT_same e2 hs4) ?_
        simp [tSeq, tIfS, tOr, tAnd, tNot, tB, tCB, tCons, tNil, tVar, tC, tTest, tChain, rI0, rI, tOp, tUn, rU, tRet, tRetN, tNext, rNe, rEq, tAug, tAsg, gName, ipI, tDrop, tIf, tFld, tM1, tTup, tLst, tSl, tPart, rSlS, rIxS, tCall, tMeth, tProp, tMake, gTup, gCons, gNil, tPar, rAppend, tyV, tThen, tNotN, tIsN, tNotV, tRg1, tLstRg, scal, flds_word, gSub, tBM, S_len, S_app, S_count, S_take, S_drop, S_cut, S_rep, lit_d, lit_o, lit_do, lit_od, lit_e, L2.start, wipe, and_assoc, tAndV, tOrV, tNoPart, Int.ofNat_inj]
        refine ⟨_, .inr (seqT_same e2 hs4), ?_⟩
        simp [tSeq, tIfS, tOr, tAnd, tNot, tB, tCB, tCons, tNil, tVar, tC, tTest, tChain, rI0, rI, tOp, tUn, rU, tRet, tRetN, tNext, rNe, rEq, tAug, tAsg, gName, ipI, tDrop, tIf, tFld, tM1, tTup, tLst, tSl, tPart, rSlS, rIxS, tCall, tMeth, tProp, tMake, gTup, gCons, gNil, tPar, rAppend, tyV, tThen, tNotN, tIsN, tNotV, tRg1, tLstRg, scal, flds_word, gSub, tBM, S_len, S_app, S_count, S_take, S_drop, S_cut, S_rep, lit_d, lit_o, lit_do, lit_od, lit_e, L2.start, wipe, and_assoc, tAndV, tOrV, tNoPart, Int.ofNat_inj]
        refine ⟨_, rfl, a4, rfl, ⟨_, seqT_same e2 hs4⟩, fun D hD => ?_⟩
        obtain ⟨Rc, hRc⟩ : ∃ Rc : List PyData → List V → Hp → Prop, ∀ r acc H4, Rc r acc H4 ↔ Same H2 H4 ∧ acc = [] ∧ ∃ ns : List Int, r = ns.map PyData.int := ⟨_, fun _ _ _ => Iff.rfl⟩
        refine lc_tupR (F := H) hs4 hd4 Rc (fun r acc H4 h => e2.trans ((hRc _ _ _).mp h).1) ((hRc _ _ _).mpr ⟨same_new hD, rfl, [(q.1 : Int), (q.2.1 : Int), (q.2.2 : Int)], rfl⟩) ?_ ?_
        · intro d r acc v H4 hD4 hR hv
          obtain ⟨e4, rfl, ns, hns⟩ := (hRc _ _ _).mp hR
          cases ns with
          | nil => cases hns
          | cons n ns =>
            obtain ⟨rfl, rfl⟩ := List.cons.inj hns
            cases dp_intI hv
            simp [LcTurn, LcN, tSeq, tIfS, tOr, tAnd, tNot, tB, tCB, tCons, tNil, tVar, tC, tTest, tChain, rI0, rI, tOp, tUn, rU, tRet, tRetN, tNext, rNe, rEq, tAug, tAsg, gName, ipI, tDrop, tIf, tFld, tM1, tTup, tLst, tSl, tPart, rSlS, rIxS, tCall, tMeth, tProp, tMake, gTup, gCons, gNil, tPar, rAppend, tyV, tThen, tNotN, tIsN, tNotV, tRg1, tLstRg, scal, flds_word, gSub, tBM, S_len, S_app, S_count, S_take, S_drop, S_cut, S_rep, lit_d, lit_o, lit_do, lit_od, lit_e, L2.start, wipe, and_assoc, tAndV, tOrV, tNoPart, Int.ofNat_inj]
            refine isi_ib ?_
            simp
            refine isi_ii ?_
            simp
            exact ⟨_, hD4, (hRc _ _ _).mpr ⟨e4, rfl, ns, rfl⟩⟩
        · intro acc H4 hD4 hR
          obtain ⟨e4, rfl, ns, hns⟩ := (hRc _ _ _).mp hR
          refine .inl ⟨?_, (hPv _ _ _).mpr ⟨rs, _, _, rfl, rfl, e2.trans e4⟩⟩
          simp [TruV]
          exact .inl (sqL_of hD4)
    · intro σ H2 hP
      obtain ⟨rs, x, y, hrs, rfl, e2⟩ := (hPv _ _ _).mp hP
      exact k _ e2
end
end K12
set_option Elab.async false
set_option linter.all false
set_option maxRecDepth 100000
set_option maxHeartbeats 4000000
namespace K12
open PySem PySem.Spec PyProof.Rows L2 K12M
/-! the mirror of _law_reached, its checks -/
def lkp {α : Type} : List (Wd × α) → Wd → Option α
  | [], _ => none
  | (x, y) :: r, w => if x == w then some y else lkp r w
def setL {α : Type} : List (Wd × α) → Wd → α → List (Wd × α)
  | [], _, _ => []
  | (x, y) :: r, w, z => if x == w then (x, z) :: r else (x, y) :: setL r w z
structure RSt where
  l : List (Wd × Nat)
  r : List (Wd × List (List Pull))
  f : List Wd
def rNew (turn : Nat) (s : RSt) (b : Wd) : RSt := match lkp s.l b with
  | none => ⟨s.l ++ [(b, turn)], s.r ++ [(b, [])], s.f ++ [b]⟩
  | some _ => s
def rAdd (turn : Nat) (word : Wd) (s : RSt) (x : Pull × Wd) : Option RSt := match lkp s.l x.2 with
  | none => none
  | some k => match Nat.beq k turn with
    | false => some s
    | true => match lkp s.r x.2, lkp s.r word with
      | some old, some src => match Nat.ble old.length 1000 && (Nat.ble src.length 1000 && src.all fun r => Nat.ble r.length 100) with
        | true => some ⟨s.l, setL s.r x.2 (old ++ src.map fun r => r ++ [x.1]), s.f⟩
        | false => none
      | _, _ => none
def rStep (turn : Nat) (word : Wd) (s : RSt) (x : Pull × Wd) : Option RSt := match Nat.ble s.l.length 1000 && (Nat.ble s.r.length 1000 && Nat.ble s.f.length 1000) with
  | true => rAdd turn word (rNew turn s x.2) x
  | false => none
def rFold (turn : Nat) (word : Wd) : RSt → List (Pull × Wd) → Option RSt
  | s, [] => some s
  | s, x :: xs => match rStep turn word s x with
    | some s' => rFold turn word s' xs
    | none => none
def rWords (turn : Nat) : RSt → List Wd → Option RSt
  | s, [] => some s
  | s, w :: ws => match Nat.ble 2 w.length && Nat.ble w.length 12 with
    | true => (match rFold turn w s (lawPullsM w) with
      | some s' => rWords turn s' ws
      | none => none)
    | false => none
/-- the turns that are left: turn + k is the size; f holds the words of the last turn -/
def rTurns : Nat → Nat → RSt → Option RSt
  | 0, _, s => some s
  | k + 1, turn, s => match rWords turn ⟨s.l, s.r, []⟩ s.f with
    | some s' => rTurns k (turn + 1) s'
    | none => none
def rInit (n : Nat) : RSt := ⟨[(plainW n, 0)], [(plainW n, [[]])], [plainW n]⟩
def reachedM (n : Nat) : Option RSt := rTurns n 1 (rInit n)
def leD (a b : PyData) : Bool := PySem.W.dataLe false id a b
def okWord (s : RSt) (w : Wd) : Bool := match lkp s.l w with
  | some k => Nat.beq k (odM w).length && (Nat.beq k (ridgesM w) && (Txt.count (S w) (S [false, true]) == (k : Int) && (match lkp s.r w, toldM w with
    | some rs, some told => rs.isPerm told && told.all fun a => told.all fun b => !(leD (dRow a) (dRow b) && leD (dRow b) (dRow a)) || a == b
    | _, _ => false)))
  | none => false
def okReach (n : Nat) : Bool := match reachedM n with
  | some s => (s.l.map Prod.fst).isPerm (allM n) && ((allM n).all (okWord s) && (decide ((allM n).Pairwise fun a b => leD (dWd a) (dWd b) = true) && (allM n).all fun a => (allM n).all fun b => !(leD (dWd a) (dWd b) && leD (dWd b) (dWd a)) || a == b))
  | none => false
theorem reach_ok : ∀ n, n < 5 → okReach (if n == 0 then 1 else n) = true := by decide +kernel
theorem count_od : ∀ n, n < 7 → ((allM n).all fun w => Txt.count (S w) (S [false, true]) == ((odM w).length : Int)) = true := by decide +kernel
theorem ridges5 : ∀ n, n < 7 → ((allM n).all fun w => Nat.ble (ridgesM w) 5 && Nat.beq w.length (2 * n)) = true := by decide +kernel
end K12
set_option Elab.async false
set_option linter.all false
set_option maxRecDepth 100000
set_option maxHeartbeats 4000000
namespace K12
open PySem PySem.Spec PyProof.Rows L2 K12M
/-! dicts by words, lists of rows behind them -/
theorem inrS {x w : Wd} : ((Sum.inr (S x) : Key) = Sum.inr (S w)) ↔ x = w := ⟨fun h => S_inj (Sum.inr.inj h), fun h => by rw [h]⟩
def Lk (L : List (Wd × Nat)) : List (Key × V) := L.map fun x => (Sum.inr (S x.1), V.int (x.2 : Nat))
def Rk {α : Type} : List (Wd × α) → List Addr → List (Key × V)
  | (w, _) :: R, a :: A => (Sum.inr (S w), V.ref a) :: Rk R A
  | _, _ => []
theorem valV_Lk (w : Wd) : ∀ L : List (Wd × Nat), valV (Lk L) (Sum.inr (S w)) = (lkp L w).map fun k => V.int (k : Nat)
  | [] => rfl
  | (x, k) :: L => by
    show valV ((Sum.inr (S x), V.int (k : Nat)) :: Lk L) _ = _
    by_cases e : x = w
    · subst e
      rw [valV_pos rfl]
      simp [lkp]
    · rw [valV_neg (fun h => e (inrS.mp h)), valV_Lk w L]
      have : (x == w) = false := beq_eq_false_iff_ne.mpr e
      simp [lkp, this]
theorem put_none {kvs : List (Key × V)} {k : Key} {v : V} (h : valV kvs k = none) : putK kvs k v = kvs ++ [(k, v)] := by
  unfold putK
  rw [if_neg]
  intro c
  obtain ⟨x, hx, he⟩ := List.any_eq_true.mp c
  unfold valV at h
  cases e : kvs.find? fun kv => decide (kv.1 = k) with
  | none =>
    have := List.find?_eq_none.mp e x hx
    exact this he
  | some y =>
    rw [e] at h
    cases h
theorem lkp_none {α : Type} {w : Wd} : ∀ {L : List (Wd × α)}, lkp L w = none ↔ ¬ w ∈ L.map Prod.fst
  | [] => by simp [lkp]
  | (x, y) :: L => by
    by_cases e : x = w
    · subst e
      simp [lkp]
    · have : (x == w) = false := beq_eq_false_iff_ne.mpr e
      have ih := lkp_none (w := w) (L := L)
      simp [lkp, this] at ih ⊢
      rw [ih]
      constructor
      · intro h
        exact ⟨fun c => e c.symm, h⟩
      · intro h
        exact h.2
theorem setL_keys {α : Type} {w : Wd} {z : α} : ∀ L : List (Wd × α), (setL L w z).map Prod.fst = L.map Prod.fst
  | [] => rfl
  | (x, y) :: L => by
    unfold setL
    split
    · rfl
    · rw [List.map_cons, List.map_cons, setL_keys L]
inductive RL (K : PySem.W.Frag) (D M : Hp) : List (Wd × List (List Pull)) → List Addr → Prop
  | nil : RL K D M [] []
  | cons {w : Wd} {rs : List (List Pull)} {a : Addr} {vs : List V} {R A} : M a = some (.lst vs) → DpAll K D vs (rs.map dRow) → RL K D M R A → RL K D M ((w, rs) :: R) (a :: A)
section
variable {K : PySem.W.Frag} {H H2 : Hp} {dl dr fl : Addr} {A : List Addr} {s : RSt}
theorem RL.mono {D D' M M' : Hp} (e : Same D D') : ∀ {R : List (Wd × List (List Pull))} {A : List Addr}, RL K D M R A → (∀ a ∈ A, M' a = M a) → RL K D' M' R A
  | _, _, .nil, _ => .nil
  | _, _, .cons h1 h2 t, h => .cons (by rw [h _ (by simp)]; exact h1) (DpAll.same h2 e) (RL.mono e t fun a ha => h a (by simp [ha]))
theorem RL.len {D M : Hp} : ∀ {R : List (Wd × List (List Pull))} {A : List Addr}, RL K D M R A → A.length = R.length
  | _, _, .nil => rfl
  | _, _, .cons _ _ t => by rw [List.length_cons, List.length_cons, RL.len t]
theorem RL.live {D M : Hp} : ∀ {R : List (Wd × List (List Pull))} {A : List Addr}, RL K D M R A → ∀ a ∈ A, ∃ o, M a = some o
  | _, _, .nil, a, h => by simp at h
  | _, _, .cons h1 _ t, a, h => by
    rcases List.mem_cons.mp h with h | h
    · subst h
      exact ⟨_, h1⟩
    · exact RL.live t a h
theorem RL.snoc {D M : Hp} {w : Wd} {rs : List (List Pull)} {a : Addr} {vs : List V} (h1 : M a = some (.lst vs)) (h2 : DpAll K D vs (rs.map dRow)) : ∀ {R : List (Wd × List (List Pull))} {A : List Addr}, RL K D M R A → RL K D M (R ++ [(w, rs)]) (A ++ [a])
  | _, _, .nil => .cons h1 h2 .nil
  | _, _, .cons g1 g2 t => .cons g1 g2 (RL.snoc h1 h2 t)
theorem Rk_snoc {α : Type} {w : Wd} {z : α} {a : Addr} : ∀ {R : List (Wd × α)} {A : List Addr}, A.length = R.length → Rk (R ++ [(w, z)]) (A ++ [a]) = Rk R A ++ [(Sum.inr (S w), V.ref a)]
  | [], [], _ => rfl
  | [], _ :: _, h => by cases h
  | _ :: _, [], h => by cases h
  | (x, y) :: R, b :: A, h => by
    show (Sum.inr (S x), V.ref b) :: Rk (R ++ [(w, z)]) (A ++ [a]) = _
    rw [Rk_snoc (by simpa using h)]
    rfl
theorem Rk_none {α : Type} {w : Wd} : ∀ {R : List (Wd × α)} {A : List Addr}, lkp R w = none → valV (Rk R A) (Sum.inr (S w)) = none
  | [], A, _ => by cases A <;> rfl
  | _ :: _, [], _ => rfl
  | (x, y) :: R, b :: A, h => by
    by_cases e : x = w
    · subst e
      simp [lkp] at h
    · have hb : (x == w) = false := beq_eq_false_iff_ne.mpr e
      simp [lkp, hb] at h
      show valV ((Sum.inr (S x), V.ref b) :: Rk R A) _ = _
      rw [valV_neg (fun c => e (inrS.mp c))]
      exact Rk_none h
theorem Rk_set {α : Type} {w : Wd} {z : α} : ∀ {R : List (Wd × α)} {A : List Addr}, Rk (setL R w z) A = Rk R A
  | [], A => by cases A <;> rfl
  | (x, y) :: R, [] => by
    unfold setL
    split <;> rfl
  | (x, y) :: R, b :: A => by
    unfold setL
    split
    · rfl
    · show (Sum.inr (S x), V.ref b) :: Rk (setL R w z) A = (Sum.inr (S x), V.ref b) :: Rk R A
      rw [Rk_set]
theorem RL.get {D M : Hp} {w : Wd} {rs : List (List Pull)} : ∀ {R : List (Wd × List (List Pull))} {A : List Addr}, RL K D M R A → lkp R w = some rs → ∃ a vs, a ∈ A ∧ valV (Rk R A) (Sum.inr (S w)) = some (.ref a) ∧ M a = some (.lst vs) ∧ DpAll K D vs (rs.map dRow) ∧
    ∀ (D' M' : Hp) (vs' : List V) (rs' : List (List Pull)), A.Nodup → Same D D' → (∀ b ∈ A, b ≠ a → M' b = M b) → M' a = some (.lst vs') → DpAll K D' vs' (rs'.map dRow) → RL K D' M' (setL R w rs') A
  | _, _, .nil, h => by cases h
  | (x, y) :: R, b :: A, .cons (vs := vs) h1 h2 t, h => by
    by_cases e : x = w
    · subst e
      have hy : y = rs := by simpa [lkp] using h
      subst hy
      refine ⟨b, vs, by simp, valV_pos rfl, h1, h2, fun D' M' vs' rs' nd e1 hM ha hd => ?_⟩
      have : setL ((x, y) :: R) x rs' = (x, rs') :: R := by simp [setL]
      rw [this]
      obtain ⟨n1, n2⟩ := List.nodup_cons.mp nd
      exact .cons ha hd (RL.mono e1 t fun c hc => hM c (by simp [hc]) (fun z => n1 (z ▸ hc)))
    · have hb : (x == w) = false := beq_eq_false_iff_ne.mpr e
      simp [lkp, hb] at h
      obtain ⟨a, vs1, g1, g2, g3, g4, g5⟩ := RL.get t h
      refine ⟨a, vs1, by simp [g1], ?_, g3, g4, fun D' M' vs' rs' nd e1 hM ha hd => ?_⟩
      · show valV ((Sum.inr (S x), V.ref b) :: Rk R A) _ = _
        rw [valV_neg (fun c => e (inrS.mp c))]
        exact g2
      · have : setL ((x, y) :: R) w rs' = (x, y) :: setL R w rs' := by simp [setL, hb]
        rw [this]
        obtain ⟨n1, n2⟩ := List.nodup_cons.mp nd
        exact .cons (by rw [hM b (by simp) (fun z => n1 (z ▸ g1))]; exact h1) (DpAll.same h2 e1) (g5 D' M' vs' rs' n2 e1 (fun c hc => hM c (by simp [hc])) ha hd)
/-! ### the heap of _law_reached -/
structure RS (K : PySem.W.Frag) (H H2 : Hp) (dl dr fl : Addr) (A : List Addr) (s : RSt) : Prop where
  l : H2 dl = some (.dK (Lk s.l))
  r : H2 dr = some (.dK (Rk s.r A))
  f : H2 fl = some (.lst (s.f.map fun w => V.str (S w)))
  rl : RL K (nwx (fl :: dl :: dr :: A) H H2) H2 s.r A
  nd : (fl :: dl :: dr :: A).Nodup
  new : ∀ x ∈ fl :: dl :: dr :: A, H x = none
  ky : s.r.map Prod.fst = s.l.map Prod.fst
  sm : Same H H2
theorem RS.live (z : RS K H H2 dl dr fl A s) : ∀ x ∈ fl :: dl :: dr :: A, ∃ o, H2 x = some o := fun x hx => by
  rcases List.mem_cons.mp hx with h | hx
  · exact ⟨_, h ▸ z.f⟩
  rcases List.mem_cons.mp hx with h | hx
  · exact ⟨_, h ▸ z.l⟩
  rcases List.mem_cons.mp hx with h | hx
  · exact ⟨_, h ▸ z.r⟩
  · exact z.rl.live x hx
theorem RS.keep {H3 : Hp} (z : RS K H H2 dl dr fl A s) (e : Same H2 H3) : RS K H H3 dl dr fl A s ∧ Same (nwx (fl :: dl :: dr :: A) H H2) (nwx (fl :: dl :: dr :: A) H H3) :=
  ⟨⟨e _ _ z.l, e _ _ z.r, e _ _ z.f, z.rl.mono (nwx_mono (SX.of e)) fun a ha => by obtain ⟨o, ho⟩ := z.rl.live a ha; rw [ho]; exact e _ _ ho, z.nd, z.new, z.ky, z.sm.trans e⟩, nwx_mono (SX.of e)⟩
/-- a new list at the place of the words of the turn -/
theorem RS.turn {q : Addr} (z : RS K H H2 dl dr fl A s) (hq : H2 q = none) : RS K H (upd H2 q (.lst [])) dl dr q A ⟨s.l, s.r, []⟩ ∧ Same (nwx (fl :: dl :: dr :: A) H H2) (nwx (q :: dl :: dr :: A) H (upd H2 q (.lst []))) ∧ nwx (q :: dl :: dr :: A) H (upd H2 q (.lst [])) fl = some (.lst (s.f.map fun w => V.str (S w))) := by
  have e := same_new (o := HO.lst []) hq
  have hn := new_not z.live hq
  have hm : ∀ b o, H2 b = some o → H b = none → ¬ b ∈ dl :: dr :: A → nwx (q :: dl :: dr :: A) H (upd H2 q (.lst [])) b = some o := fun b o hb h0 hx => by
    refine nwx_at (fun c => ?_) h0 (e _ _ hb)
    rcases List.mem_cons.mp c with c | c
    · subst c
      rw [hq] at hb
      cases hb
    · exact hx c
  have hD : Same (nwx (fl :: dl :: dr :: A) H H2) (nwx (q :: dl :: dr :: A) H (upd H2 q (.lst []))) := fun b o h => by
    have hb : ¬ b ∈ fl :: dl :: dr :: A := fun c => by rw [nwx_none c] at h; cases h
    obtain ⟨h0, h1⟩ := nw_of (nwx_nw _ _ h)
    exact hm b o h1 h0 (fun c => hb (List.mem_cons_of_mem _ c))
  obtain ⟨n1, n2⟩ := List.nodup_cons.mp z.nd
  refine ⟨⟨e _ _ z.l, e _ _ z.r, upd_same, z.rl.mono hD fun a ha => ?_, List.nodup_cons.mpr ⟨fun c => hn (List.mem_cons_of_mem _ c), n2⟩, fun x hx => ?_, z.ky, z.sm.trans e⟩, hD, hm _ _ z.f (z.new _ (by simp)) n1⟩
  · obtain ⟨o, ho⟩ := z.rl.live a ha
    rw [ho]
    exact e _ _ ho
  · rcases List.mem_cons.mp hx with c | c
    · subst c
      exact none_back z.sm hq
    · exact z.new x (List.mem_cons_of_mem _ c)
/-- a word met for the first time -/
theorem RS.newW {b : Wd} {turn : Nat} {ad : Addr} (z : RS K H H2 dl dr fl A s) (hb : lkp s.l b = none) (had : H2 ad = none) :
    let H6 := upd (upd (upd (upd H2 dl (.dK (putK (Lk s.l) (Sum.inr (S b)) (.int (turn : Nat))))) ad (.lst [])) dr (.dK (putK (Rk s.r A) (Sum.inr (S b)) (.ref ad)))) fl (.lst ((s.f.map fun w => V.str (S w)) ++ [.str (S b)]))
    RS K H H6 dl dr fl (A ++ [ad]) ⟨s.l ++ [(b, turn)], s.r ++ [(b, [])], s.f ++ [b]⟩ ∧ Same (nwx (fl :: dl :: dr :: A) H H2) (nwx (fl :: dl :: dr :: (A ++ [ad])) H H6) := by
  intro H6
  have hn := new_not z.live had
  have nfl : ad ≠ fl := fun c => hn (by simp [c])
  have ndl : ad ≠ dl := fun c => hn (by simp [c])
  have ndr : ad ≠ dr := fun c => hn (by simp [c])
  have nA : ¬ ad ∈ A := fun c => hn (by simp [c])
  have nd := z.nd
  simp only [List.nodup_cons, List.mem_cons, not_or] at nd
  obtain ⟨⟨f1, f2, f3⟩, ⟨g1, g2⟩, g3, nA'⟩ := nd
  have hr0 : lkp s.r b = none := by
    rw [lkp_none, z.ky, ← lkp_none]
    exact hb
  have hp1 : putK (Lk s.l) (Sum.inr (S b)) (.int (turn : Nat)) = Lk (s.l ++ [(b, turn)]) := by
    rw [put_none (by rw [valV_Lk, hb]; rfl)]
    unfold Lk
    rw [List.map_append]
    rfl
  have hp2 : putK (Rk s.r A) (Sum.inr (S b)) (.ref ad) = Rk (s.r ++ [(b, ([] : List (List Pull)))]) (A ++ [ad]) := by
    rw [put_none (Rk_none hr0), Rk_snoc z.rl.len]
  have old : ∀ x, x ≠ fl → x ≠ dl → x ≠ dr → x ≠ ad → H6 x = H2 x := fun x a1 a2 a3 a4 => by
    show upd _ fl _ x = _
    rw [upd_ne a1, upd_ne a3, upd_ne a4, upd_ne a2]
  have hD : Same (nwx (fl :: dl :: dr :: A) H H2) (nwx (fl :: dl :: dr :: (A ++ [ad])) H H6) := fun x o h => by
    have hx : ¬ x ∈ fl :: dl :: dr :: A := fun c => by rw [nwx_none c] at h; cases h
    obtain ⟨h0, h1⟩ := nw_of (nwx_nw _ _ h)
    have hxa : x ≠ ad := fun c => by rw [c, had] at h1; cases h1
    simp only [List.mem_cons, not_or] at hx
    refine nwx_at ?_ h0 (by rw [old x hx.1 hx.2.1 hx.2.2.1 hxa]; exact h1)
    simp only [List.mem_cons, List.mem_append, List.not_mem_nil, or_false, not_or]
    exact ⟨hx.1, hx.2.1, hx.2.2.1, hx.2.2.2, hxa⟩
  have had6 : H6 ad = some (.lst []) := by
    show upd _ fl _ ad = _
    rw [upd_ne nfl, upd_ne ndr, upd_same]
  refine ⟨⟨?_, ?_, ?_, ?_, ?_, ?_, ?_, ?_⟩, hD⟩
  · show upd _ fl _ dl = _
    rw [upd_ne (Ne.symm f1), upd_ne g1, upd_ne (Ne.symm ndl), upd_same, hp1]
  · show upd _ fl _ dr = _
    rw [upd_ne (Ne.symm f2), upd_same, hp2]
  · show upd _ fl _ fl = _
    rw [upd_same, List.map_append]
    rfl
  · refine RL.snoc had6 .nil (z.rl.mono hD fun a ha => old a ?_ ?_ ?_ ?_)
    · exact fun c => f3 (c ▸ ha)
    · exact fun c => g2 (c ▸ ha)
    · exact fun c => g3 (c ▸ ha)
    · exact fun c => nA (c ▸ ha)
  · simp only [List.nodup_cons, List.mem_cons, List.mem_append, List.not_mem_nil, or_false, not_or]
    refine ⟨⟨f1, f2, f3, Ne.symm nfl⟩, ⟨g1, g2, Ne.symm ndl⟩, ⟨g3, Ne.symm ndr⟩, List.nodup_append.mpr ⟨nA', by simp, fun a ha b hb => ?_⟩⟩
    have : b = ad := by simpa using hb
    subst this
    exact fun c => nA (c ▸ ha)
  · intro x hx
    simp only [List.mem_cons, List.mem_append, List.not_mem_nil, or_false] at hx
    rcases hx with hx | hx | hx | hx | hx
    · exact z.new x (by simp [hx])
    · exact z.new x (by simp [hx])
    · exact z.new x (by simp [hx])
    · exact z.new x (by simp [hx])
    · subst hx
      exact none_back z.sm had
  · rw [List.map_append, List.map_append, z.ky]
    rfl
  · exact fun x o h => by
      have h2 := z.sm _ _ h
      have hx : ¬ x ∈ fl :: dl :: dr :: A := fun c => by rw [z.new x c] at h; cases h
      simp only [List.mem_cons, not_or] at hx
      have hxa : x ≠ ad := fun c => by rw [c, had] at h2; cases h2
      rw [old x hx.1 hx.2.1 hx.2.2.1 hxa]
      exact h2
/-- rows put behind those of a word -/
theorem RS.add {w : Wd} {old ds : List (List Pull)} {H4 : Hp} {Dd : Addr} {zs : List V} (z : RS K H H2 dl dr fl A s) (ho : lkp s.r w = some old) (e : Same H2 H4) (hD : H2 Dd = none) (hz : DpAll K (nwx (Dd :: fl :: dl :: dr :: A) H H4) zs (ds.map dRow)) :
    ∃ ad vs, valV (Rk s.r A) (Sum.inr (S w)) = some (.ref ad) ∧ H2 ad = some (.lst vs) ∧ vs.length = old.length ∧
      RS K H (upd H4 ad (.lst (vs ++ zs))) dl dr fl A ⟨s.l, setL s.r w (old ++ ds), s.f⟩ ∧ Same (nwx (fl :: dl :: dr :: A) H H2) (nwx (fl :: dl :: dr :: A) H (upd H4 ad (.lst (vs ++ zs)))) := by
  obtain ⟨ad, vs, a1, a2, a3, a4, a5⟩ := z.rl.get ho
  have nd := z.nd
  simp only [List.nodup_cons, List.mem_cons, not_or] at nd
  obtain ⟨⟨f1, f2, f3⟩, ⟨g1, g2⟩, g3, nA'⟩ := nd
  have mX : ad ∈ fl :: dl :: dr :: A := by simp [a1]
  have e5 : SX (fl :: dl :: dr :: A) H2 (upd H4 ad (.lst (vs ++ zs))) := (SX.of e).put mX
  have hd : Same (nwx (fl :: dl :: dr :: A) H H2) (nwx (fl :: dl :: dr :: A) H (upd H4 ad (.lst (vs ++ zs)))) := nwx_mono e5
  have old' : ∀ x o, H2 x = some o → x ≠ ad → upd H4 ad (.lst (vs ++ zs)) x = some o := fun x o h n => by
    rw [upd_ne n]
    exact e _ _ h
  refine ⟨ad, vs, a2, a3, by have := dpA_len a4; simpa using this, ⟨old' _ _ z.l (fun c => g2 (c ▸ a1)), ?_, old' _ _ z.f (fun c => f3 (c ▸ a1)), ?_, z.nd, z.new, by rw [setL_keys]; exact z.ky, ?_⟩, hd⟩
  · rw [Rk_set]
    exact old' _ _ z.r (fun c => g3 (c ▸ a1))
  · refine a5 _ _ _ _ nA' hd (fun b hb n => ?_) upd_same ?_
    · obtain ⟨o, hbo⟩ := z.rl.live b hb
      rw [hbo]
      exact old' _ _ hbo n
    · rw [List.map_append]
      refine dpA_app (DpAll.same a4 hd) (DpAll.same hz fun x o h => ?_)
      have hx : ¬ x ∈ Dd :: fl :: dl :: dr :: A := fun c => by rw [nwx_none c] at h; cases h
      obtain ⟨h0, h1⟩ := nw_of (nwx_nw _ _ h)
      have hx2 : ¬ x ∈ fl :: dl :: dr :: A := fun c => hx (List.mem_cons_of_mem _ c)
      exact nwx_at hx2 h0 (by rw [upd_ne (fun c => hx2 (by rw [c]; exact mX))]; exact h1)
  · exact fun x o h => by
      have h2 := z.sm _ _ h
      refine old' _ _ h2 fun c => ?_
      rw [c, z.new ad mX] at h
      cases h
end
end K12
set_option Elab.async false
set_option linter.all false
set_option maxRecDepth 100000
set_option maxHeartbeats 4000000
namespace K12
open PySem PySem.Spec PyProof.Rows L2 K12M
abbrev s_l_reached : Stmt := top 30
theorem sc_l_reached : FnScope ["_law_size", "_law_plain_here", "_law_least", "_law_rows", "_law_now", "_law_turn", "_law_following", "_law_word_here", "_law_pull_here", "_law_behind", "_law_longer", "_law_row_here"] ["_law_size"] (defScope s_l_reached) := ⟨rfl, rfl, rfl, by decide +kernel, rfl, by decide +kernel, by decide +kernel⟩
section
variable {P : Program} {w : World} {K : PySem.W.Frag} {mg : Str → Option Value} {base : Heap} {C : Addr}
theorem Rk_len {α : Type} : ∀ (R : List (Wd × α)) (A : List Addr), (Rk R A).length ≤ R.length
  | [], A => by cases A <;> exact Nat.le_refl _
  | _ :: _, [] => Nat.zero_le _
  | (_, _) :: R, _ :: A => Nat.succ_le_succ (Rk_len R A)
theorem lc_listR2 {a : Addr} {xs : List V} {g : TG} {tt : TT} {te : TE} {vs : List Nat} {σ : L2.St} {H1 F F2 : Hp} {D : Addr} {Qd : Hp → Prop} {ds : List PyData} (hq : SqL K F a xs) (hd : DpAll K F2 xs ds) (R : List PyData → List V → Hp → Prop) (hF : ∀ r acc H, R r acc H → Same F H) (h0 : R ds [] (upd H1 D (.lst [])))
    (hs : ∀ d r acc v H, H D = some (.lst acc) → R (d :: r) acc H → Dp K F2 v d → LcTurn g tt te vs σ D v H (R r)) (he : ∀ acc H, H D = some (.lst acc) → R [] acc H → Qd H) :
    ∃ W : Nat → Nat → Hp → Prop, (∃ m, W 0 m (upd H1 D (.lst []))) ∧ ∀ i m H, W i m H →
      ((Itl K a).stop i H ∧ Qd H) ∨ ((Itl K a).go i H ∧ ∃ Nx : Hp → Prop, (∀ H', Nx H' → ∃ m', m' < m ∧ W (i + 1) m' H') ∧ ∀ x H', (Itl K a).yld i H x H' → g x (wipe σ vs) H' fun σ2 H2 => wipe σ2 vs = wipe σ vs ∧ tt σ2 H2 fun b H3 =>
        if b = true then te σ2 H3 fun y H4 => ∃ acc, H4 D = some (.lst acc) ∧ acc.length < sizeLine ∧ Nx (upd H4 D (.lst (acc ++ [y]))) else Nx H3) := by
  refine lc_list (xs := xs) (fun i H => ∃ acc, H D = some (.lst acc) ∧ R (ds.drop i) acc H) ⟨[], upd_same, h0⟩ (fun i H _ ⟨acc, _, p⟩ => (hF _ _ _ p).seq hq) (fun i x H hx ⟨acc, e0, p⟩ => ?_) fun H ⟨acc, e0, p⟩ => ?_
  · obtain ⟨d, e, hv⟩ := dpA_at hd hx
    rw [drop_at e] at p
    exact hs d _ acc x H e0 p hv
  · rw [List.drop_of_length_le (by rw [dpA_len hd]; exact Nat.le_refl _)] at p
    exact he acc H e0 p
/-! ### _law_reached -/
theorem strs_dpA {H : Hp} : ∀ (ws : List Wd), DpAll K H (ws.map fun w => V.str (S w)) (ws.map dWd)
  | [] => .nil
  | w :: ws => .cons (.str _) (strs_dpA ws)
def ReachAt (K : PySem.W.Frag) (F : Hp) (s : RSt) (t : Addr) : Prop := ∃ (dl dr : Addr) (A : List Addr), F t = some (.tup [.ref dl, .ref dr]) ∧ F dl = some (.dK (Lk s.l)) ∧ F dr = some (.dK (Rk s.r A)) ∧ RL K F F s.r A
def spReach (K : PySem.W.Frag) : Sp := fun vs H Q _ => ∃ (n : Nat) (s : RSt), vs = [.int (n : Int)] ∧ 1 ≤ n ∧ n ≤ 4 ∧ reachedM n = some s ∧ ∀ H' t, Same H H' → ReachAt K (nw H H') s t → Q (.ref t) H'
theorem cl_reached (T : Txt K mg C) (clp : Cl P w K mg base 3 "_law_pulls" ["_law_word_here"] (spLPulls K)) (D : Df K mg "_law_reached" s_l_reached ["_law_size"]) : Cl P w K mg base 4 "_law_reached" ["_law_size"] (spReach K) := by
  obtain ⟨f__law_pulls, fd__law_pulls, F__law_pulls, g__law_pulls, k__law_pulls, b__law_pulls⟩ := clp
  refine D.cl fun f fd F => F.ok sc_l_reached (fun vs H Q E h => ?_) (fun cdv A outer s H vs Q E hr h => ?_)
  · obtain ⟨n, sf, rfl, _⟩ := h
    rfl
  · obtain ⟨n, sf, rfl, hn1, hn, hM, k⟩ := h
    have hu := hu_of hr
    refine ⟨_, (pss_cons (ps_set (i := 1) sc_l_reached.nd rfl (.inl rfl) (pe_op op_add_str (pe_op K12R.op_mulS pe_str (pv 0)) (pe_op K12R.op_mulS pe_str (pv 0))))
      (pss_cons (ps_set (i := 2) sc_l_reached.nd rfl (.inl rfl) (pe_disp (pps_cons (pv 1) pe_int pps_nil) (by rfl) (by rfl) (fun z => by cases z) (by decide)))
      (pss_cons (ps_set (i := 3) sc_l_reached.nd rfl (.inl rfl) (pe_disp (pps_cons (pv 1) (pe_lst (pa_cons (pe_tup pa_nil) pa_nil)) pps_nil) (by rfl) (by rfl) (fun z => by cases z) (by decide)))
      (pss_cons (ps_set (i := 4) sc_l_reached.nd rfl (.inl rfl) (pe_lst (pa_cons (pv 1) pa_nil)))
      (pss_cons (ps_for PassesOwn.never rfl (pi_range2 (by rfl) T.range_ (pa_cons pe_int (pa_cons (pe_op op_add (pv 0) pe_int) pa_nil))) (pg_name (i := 5) sc_l_reached.nd rfl (.inl rfl)) (pss_cons (ps_set (i := 6) sc_l_reached.nd rfl (.inl rfl) (pe_lst pa_nil))
      (pss_cons (ps_for PassesOwn.never rfl (pi_list (pe_callTy call_list_of (by rfl) T.list_ (by decide +kernel) (pa_cons (pv 4) pa_nil))) (pg_name (i := 7) sc_l_reached.nd rfl (.inl rfl)) (pss_one (ps_for PassesOwn.never rfl (pi_list (pe_call F__law_pulls (hr.mono (by decide)) (by rfl) g__law_pulls k__law_pulls b__law_pulls .nil pass0 (pa_cons (pv 7) pa_nil))) (pg_tup (n := 2) rfl (pgs_cons (pg_name (i := 8) sc_l_reached.nd rfl (.inr rfl)) (pgs_cons (pg_name (i := 9) sc_l_reached.nd rfl (.inl rfl)) pgs_nil))) (pss_cons (ps_if (pt_cmp (pc_dnotin hu (pv 9) (pv 2))) (pss_cons (ps_dput hu (pv 2) (pv 9) (pv 5) rfl)
      (pss_cons (ps_dput hu (pv 3) (pv 9) (pe_lst pa_nil) rfl)
      (pss_one (ps_expr (pe_bm PySem.F.plainAttrs_list PySem.F.slot_list_append PySem.F.type_list_append mt_append (pv 6) (pa_cons (pv 9) pa_nil)))))) pss_nil)
      (pss_one (ps_if (pt_cmpR op_eq (pe_dget hu (pv 2) (pv 9) (fun _ _ => rfl)) (pv 5) (nomark _)) (pss_cons (ps_set (i := 10) sc_l_reached.nd rfl (.inl rfl) (pe_dget hu (pv 3) (pv 9) (fun _ _ => rfl)))
      (pss_one (ps_expr (pe_bm PySem.F.plainAttrs_list PySem.F.slot_list_extend PySem.F.type_list_extend mt_extend (pv 10) (pa_cons (pe_lc (own := [("_law_row_here", 11)]) (by rfl) sc_l_reached.nd (pi_list (pe_dget hu (pv 3) (pv 7) (fun _ _ => rfl))) (blkOk_by (N := ["_law_size", "_law_plain_here", "_law_least", "_law_rows", "_law_now", "_law_turn", "_law_following", "_law_word_here", "_law_pull_here", "_law_behind", "_law_longer", "_law_row_here"]) (sc := defScope s_l_reached) (own := [("_law_row_here", 11)]) (by decide +kernel)) (fun _ _ _ _ _ => pg_name (i := 11) sc_l_reached.nd rfl (.inl rfl)) (fun _ _ _ _ _ => pts_nil) (fun _ _ _ _ _ => (pe_op (show OpR _ (binaryOp .Add) (rCatA K) from op_catA) (pv 11) (pe_tup (pa_cons (pv 8) pa_nil))))) pa_nil))))) pss_nil))))))
      (pss_one (ps_set (i := 4) sc_l_reached.nd rfl (.inl rfl) (pv 6))))))
      (pss_one (ps_ret (pe_tup (pa_cons (pv 2) (pa_cons (pv 3) pa_nil)))))))))), ?_⟩
    simp [tSeq, tIfS, tOr, tAnd, tNot, tB, tCB, tCons, tNil, tVar, tC, tTest, tChain, rI0, rI, tOp, tUn, rU, tRet, tRetN, tNext, rNe, rEq, tAug, tAsg, gName, ipI, tDrop, tIf, tFld, tM1, tTup, tLst, tSl, tPart, rSlS, rIxS, tCall, tMeth, tProp, tMake, gTup, gCons, gNil, tPar, rAppend, tyV, tThen, tNotN, tIsN, tNotV, tRg1, tLstRg, scal, flds_word, gSub, tBM, S_len, S_app, S_count, S_take, S_drop, S_cut, S_rep, lit_d, lit_o, lit_do, lit_od, lit_e, L2.start, wipe, and_assoc, tAndV, tOrV, tNoPart, Int.ofNat_inj]
    have hpl : List.replicate n true ++ List.replicate n false = plainW n := rfl
    rw [hpl]
    obtain ⟨pw, hpw⟩ : ∃ pw, pw = plainW n := ⟨_, rfl⟩
    rw [← hpw]
    refine ⟨by omega, big (by omega), fun dl hdl => ⟨_, rfl, upd_same, [(Sum.inr (S pw), V.int 0)], rfl, Nat.le_add_left 1 14, fun dr hdr => ⟨_, rfl, Nat.zero_le _, fun p1 hp1 => ⟨line1, fun p2 hp2 => ?_⟩⟩⟩⟩
    obtain ⟨hp2a, n12⟩ := new_ne hp2
    obtain ⟨hp2b, nr2⟩ := new_ne hp2a
    obtain ⟨hp1b, nr1⟩ := new_ne hp1
    rw [upd_upd] at hdr hp1b hp2b
    obtain ⟨hdr0, nlr⟩ := new_ne hdr
    obtain ⟨hp10, nl1⟩ := new_ne hp1b
    obtain ⟨hp20, nl2⟩ := new_ne hp2b
    refine ⟨some_new (some_new upd_same hp1) hp2, [(Sum.inr (S pw), V.ref p2)], rfl, Nat.le_add_left 1 14, fun q hq => ?_⟩
    obtain ⟨hq1, nrq⟩ := new_ne hq
    obtain ⟨hq2, n2q⟩ := new_ne hq1
    obtain ⟨hq3, n1q⟩ := new_ne hq2
    obtain ⟨hq4, nrq'⟩ := new_ne hq3
    rw [upd_upd] at hq4
    obtain ⟨hq0, nlq⟩ := new_ne hq4
    rw [upd_upd]
    obtain ⟨H0, hH0⟩ : ∃ H0 : Hp, H0 = upd (upd (upd (upd (upd (upd H dl (.dK (mergeK [] [(Sum.inr (S pw), V.int 0)]))) dr (.dK [])) p1 (.tup [])) p2 (.lst [V.ref p1])) dr (.dK (mergeK [] [(Sum.inr (S pw), V.ref p2)]))) q (.lst [V.str (S pw)]) := ⟨_, rfl⟩
    rw [← hH0]
    have z0 : RS K H H0 dl dr q [p2] (rInit n) := by
      have sm : Same H H0 := fun b o h => by
        have nb : ∀ x, H x = none → b ≠ x := fun x hx => ne_of_none h hx
        rw [hH0, upd_ne (nb _ hq0), upd_ne (nb _ hdr0), upd_ne (nb _ hp20), upd_ne (nb _ hp10), upd_ne (nb _ hdr0), upd_ne (nb _ hdl)]
        exact h
      refine ⟨?_, ?_, ?_, .cons (vs := [V.ref p1]) ?_ (.cons (dp_tup (vs := []) (nwx_at ?_ hp10 ?_) .nil) .nil) .nil, ?_, ?_, rfl, sm⟩
      · rw [hH0, upd_ne nlq, upd_ne nlr, upd_ne nl2, upd_ne nl1, upd_ne nlr, upd_same, hpw]
        rfl
      · rw [hH0, upd_ne nrq, upd_same, hpw]
        rfl
      · rw [hH0, upd_same, hpw]
        rfl
      · rw [hH0, upd_ne n2q, upd_ne (Ne.symm nr2), upd_same]
      · simp
        exact ⟨n1q, Ne.symm nl1, Ne.symm nr1, n12⟩
      · rw [hH0, upd_ne n1q, upd_ne (Ne.symm nr1), upd_ne n12, upd_same]
      · simp
        exact ⟨⟨Ne.symm nlq, Ne.symm nrq, Ne.symm n2q⟩, ⟨nlr, nl2⟩, nr2⟩
      · intro x hx
        simp at hx
        rcases hx with h | h | h | h <;> (subst h; assumption)
    obtain ⟨Po, hPo⟩ : ∃ Po : Nat → L2.St → Hp → Prop, ∀ i σ H2, Po i σ H2 ↔ ∃ (q : Addr) (A : List Addr) (s : RSt) (x5 x6 x7 x8 x9 x10 x11 : Option V), σ = [some (.int (n : Int)), some (.str (S pw)), some (.ref dl), some (.ref dr), some (.ref q), x5, x6, x7, x8, x9, x10, x11] ∧ RS K H H2 dl dr q A s ∧ rTurns (n - i) (i + 1) s = some sf := ⟨_, fun _ _ _ => Iff.rfl⟩
    refine forJ (Itr 1 n) _ (fun R r => ?_) (for_range (n := n) Po ((hPo _ _ _).mpr ⟨q, [p2], rInit n, none, none, none, none, none, none, none, rfl, z0, hM⟩) ?_ ?_)
    · simp [tSeq, tIfS, tOr, tAnd, tNot, tB, tCB, tCons, tNil, tVar, tC, tTest, tChain, rI0, rI, tOp, tUn, rU, tRet, tRetN, tNext, rNe, rEq, tAug, tAsg, gName, ipI, tDrop, tIf, tFld, tM1, tTup, tLst, tSl, tPart, rSlS, rIxS, tCall, tMeth, tProp, tMake, gTup, gCons, gNil, tPar, rAppend, tyV, tThen, tNotN, tIsN, tNotV, tRg1, tLstRg, scal, flds_word, gSub, tBM, S_len, S_app, S_count, S_take, S_drop, S_cut, S_rep, lit_d, lit_o, lit_do, lit_od, lit_e, L2.start, wipe, and_assoc, tAndV, tOrV, tNoPart, Int.ofNat_inj, iRng2]
      exact ⟨by omega, by omega, r⟩
    · intro t σ H2 ht hP
      obtain ⟨q, A, s, x5, x6, x7, x8, x9, x10, x11, rfl, z, hT⟩ := (hPo _ _ _).mp hP
      obtain ⟨tn, htn⟩ : ∃ tn, tn = t + 1 := ⟨_, rfl⟩
      have et : (1 : Int) + (t : Int) = (tn : Int) := by omega
      rw [et]
      rw [show n - t = (n - tn) + 1 from by omega, ← htn] at hT
      unfold rTurns at hT
      cases hW : rWords tn ⟨s.l, s.r, []⟩ s.f with
      | none => rw [hW] at hT; cases hT
      | some s1 =>
        rw [hW] at hT
        simp [tSeq, tIfS, tOr, tAnd, tNot, tB, tCB, tCons, tNil, tVar, tC, tTest, tChain, rI0, rI, tOp, tUn, rU, tRet, tRetN, tNext, rNe, rEq, tAug, tAsg, gName, ipI, tDrop, tIf, tFld, tM1, tTup, tLst, tSl, tPart, rSlS, rIxS, tCall, tMeth, tProp, tMake, gTup, gCons, gNil, tPar, rAppend, tyV, tThen, tNotN, tIsN, tNotV, tRg1, tLstRg, scal, flds_word, gSub, tBM, S_len, S_app, S_count, S_take, S_drop, S_cut, S_rep, lit_d, lit_o, lit_do, lit_od, lit_e, L2.start, wipe, and_assoc, tAndV, tOrV, tNoPart, Int.ofNat_inj]
        intro fl hfl
        obtain ⟨z1, D1, hq1⟩ := z.turn hfl
        have hqf : fl ≠ q := fun c => by rw [c, z.f] at hfl; cases hfl
        refine ⟨_, rfl, q, rfl, _, .inl (sqL_of (by rw [upd_ne (Ne.symm hqf)]; exact z.f)), fun c hc => ⟨c, rfl, ⟨_, sqL_of upd_same⟩, ?_⟩⟩
        obtain ⟨z2, D2⟩ := z1.keep (same_new (o := HO.lst (s.f.map fun w => V.str (S w))) hc)
        obtain ⟨B, hB⟩ : ∃ B : Hp, B = upd (upd H2 fl (.lst [])) c (.lst (s.f.map fun w => V.str (S w))) := ⟨_, rfl⟩
        rw [← hB] at z2 D2 ⊢
        have hcF : nwx (fl :: dl :: dr :: A) H B c = some (.lst (s.f.map fun w => V.str (S w))) := nwx_at (new_not z1.live hc) (none_back z1.sm hc) (by rw [hB, upd_same])
        obtain ⟨F1, hF1⟩ : ∃ F1 : Hp, F1 = nwx (fl :: dl :: dr :: A) H B := ⟨_, rfl⟩
        rw [← hF1] at hcF
        obtain ⟨Pi, hPi⟩ : ∃ Pi : List PyData → L2.St → Hp → Prop, ∀ r σ H3, Pi r σ H3 ↔ ∃ (ws : List Wd) (A : List Addr) (s : RSt) (x7 x8 x9 x10 x11 : Option V), r = ws.map dWd ∧ σ = [some (.int (n : Int)), some (.str (S pw)), some (.ref dl), some (.ref dr), some (.ref q), some (.int (tn : Int)), some (.ref fl), x7, x8, x9, x10, x11] ∧ RS K H H3 dl dr fl A s ∧ Same F1 (nwx (fl :: dl :: dr :: A) H H3) ∧ rWords tn s ws = some s1 := ⟨_, fun _ _ _ => Iff.rfl⟩
        refine for_listD (F := F1) (sqL_of hcF) (strs_dpA _) Pi (fun r σ H3 h => ?_) ((hPi _ _ _).mpr ⟨s.f, A, _, _, _, _, _, _, rfl, rfl, z2, by rw [hF1]; exact Same.refl _, hW⟩) ?_ ?_
        · obtain ⟨ws, A, s, y7, y8, y9, y10, y11, _, _, z3, e3, _⟩ := (hPi _ _ _).mp h
          exact e3.trans (nwx_nw.trans nw_sub)
        · intro d r v4 σ H3 hP3 hv4
          obtain ⟨ws, A, s, y7, y8, y9, y10, y11, hws, rfl, z3, e3, hW3⟩ := (hPi _ _ _).mp hP3
          cases ws with
          | nil => cases hws
          | cons u ws =>
            obtain ⟨rfl, rfl⟩ := List.cons.inj hws
            cases dp_strI hv4
            unfold rWords at hW3
            split at hW3
            · rename_i hlen
              simp only [Bool.and_eq_true] at hlen
              have hl2 := Nat.le_of_ble_eq_true hlen.1
              have hl12 := Nat.le_of_ble_eq_true hlen.2
              cases hFo : rFold tn u s (lawPullsM u) with
              | none => rw [hFo] at hW3; cases hW3
              | some s2 =>
                rw [hFo] at hW3
                refine ⟨_, rfl, u, rfl, hl2, hl12, fun H4 v e4 hv4 => ?_⟩
                obtain ⟨a4, xs4, rfl, hs4, hd4⟩ := dp_lstI hv4
                obtain ⟨z4, D4⟩ := z3.keep e4
                have hF2 : Same (nw H3 H4) (nwx (fl :: dl :: dr :: A) H H4) := nw_nwx (SX.of z3.sm) z3.live
                obtain ⟨P2, hP2⟩ : ∃ P2 : List PyData → L2.St → Hp → Prop, ∀ r σ H5, P2 r σ H5 ↔ ∃ (xs : List (Pull × Wd)) (A : List Addr) (s : RSt) (x8 x9 x10 x11 : Option V), r = xs.map dLP ∧ σ = [some (.int (n : Int)), some (.str (S pw)), some (.ref dl), some (.ref dr), some (.ref q), some (.int (tn : Int)), some (.ref fl), some (.str (S u)), x8, x9, x10, x11] ∧ RS K H H5 dl dr fl A s ∧ Same F1 (nwx (fl :: dl :: dr :: A) H H5) ∧ Same (nw H3 H4) (nwx (fl :: dl :: dr :: A) H H5) ∧ rFold tn u s xs = some s2 := ⟨_, fun _ _ _ => Iff.rfl⟩
                refine ⟨a4, rfl, ⟨_, nw_sub.seq hs4⟩, for_listD (F := nw H3 H4) hs4 hd4 P2 (fun r σ H5 h => ?_) ((hP2 _ _ _).mpr ⟨lawPullsM u, A, s, _, _, _, _, rfl, rfl, z4, e3.trans D4, hF2, hFo⟩) ?_ ?_⟩
                · obtain ⟨xs, A, s, y8, y9, y10, y11, _, _, z5, _, e5, _⟩ := (hP2 _ _ _).mp h
                  exact e5.trans (nwx_nw.trans nw_sub)
                · intro d r v5 σ H5 hP5 hv5
                  obtain ⟨xs, A, s, y8, y9, y10, y11, hxs, rfl, z5, e51, e52, hF5⟩ := (hP2 _ _ _).mp hP5
                  cases xs with
                  | nil => cases hxs
                  | cons x xs =>
                    obtain ⟨rfl, rfl⟩ := List.cons.inj hxs
                    obtain ⟨a6, xs6, rfl, hs6, hd6⟩ := dp_tupI hv5
                    cases hd6 with
                    | cons d1 hd6 => cases hd6 with
                      | cons d2 hd6 =>
                        cases hd6
                        cases dp_strI d2
                        rename_i vp
                        unfold rFold at hF5
                        cases hSt : rStep tn u s x with
                        | none => rw [hSt] at hF5; cases hF5
                        | some s' =>
                          rw [hSt] at hF5
                          refine ⟨a6, _, rfl, seqT_same (e52.trans (nwx_nw.trans nw_sub)) hs6, rfl, _, _, rfl, _, _, rfl, rfl, ?_⟩
                          unfold rStep at hSt
                          split at hSt
                          · rename_i hg
                            simp only [Bool.and_eq_true] at hg
                            have g1 := Nat.le_of_ble_eq_true hg.1
                            have g2 := Nat.le_of_ble_eq_true hg.2.1
                            have g3 := Nat.le_of_ble_eq_true hg.2.2
                            have part2 : ∀ (A' : List Addr) (s6 : RSt) (H6 : Hp) (Dn : Ends), RS K H H6 dl dr fl A' s6 → Same F1 (nwx (fl :: dl :: dr :: A') H H6) → Same (nw H3 H4) (nwx (fl :: dl :: dr :: A') H H6) → rAdd tn u s6 x = some s' → Dn.nx = P2 (xs.map dLP) →
                                (tIfS (tTest (tOp rEq (tDGet (tVar 2) (tVar 9)) (tVar 5)))
                                  (tSeq (tAsg (tDGet (tVar 3) (tVar 9)) (gName 10))
                                    (tDrop (tBM K "list" rExtend (tVar 10) (tCons (tLc (iList K (tDGet (tVar 3) (tVar 7))) (gName 11) tYes (tOp (rCatA K) (tVar 11) (tTup (tCons (tVar 8) tNil))) [11]) tNil)))) tNext)
                                  Dn [some (V.int ↑n), some (V.str (S pw)), some (V.ref dl), some (V.ref dr), some (V.ref q), some (V.int ↑tn), some (V.ref fl), some (V.str (S u)), some vp, some (V.str (S x.2)), y10, y11] H6 := by
                              intro A' s6 H6 Dn z6 e61 e62 hAdd hDn
                              have eD6 : Same (nwx (fl :: dl :: dr :: A') H H6) H6 := nwx_nw.trans nw_sub
                              unfold rAdd at hAdd
                              cases hk : lkp s6.l x.2 with
                              | none => rw [hk] at hAdd; cases hAdd
                              | some kk =>
                                rw [hk] at hAdd
                                simp only at hAdd
                                have gk : DGet H6 dl (.str (S x.2)) (some (.int (kk : Nat))) := by
                                  have := DGet.k (k := Sum.inr (S x.2)) z6.l
                                  rw [valV_Lk, hk] at this
                                  exact this
                                refine ⟨_, rfl, _, rfl, dl, _, rfl, gk, _, rfl, rfl, _, rfl, ?_⟩
                                cases hbk : Nat.beq kk tn with
                                | false =>
                                  rw [hbk] at hAdd
                                  injection hAdd with hAdd
                                  subst hAdd
                                  have hne : ¬ (V.int (kk : Int) = V.int (tn : Int)) := fun c => by
                                    have : kk = tn := by
                                      have := V.int.inj c
                                      omega
                                    rw [this, Nat.beq_refl] at hbk
                                    cases hbk
                                  rw [if_neg (by simpa using hne)]
                                  show Dn.nx _ _
                                  rw [hDn]
                                  exact (hP2 _ _ _).mpr ⟨xs, A', s6, _, _, _, _, rfl, rfl, z6, e61, e62, hF5⟩
                                | true =>
                                  rw [hbk] at hAdd
                                  have hkt := Nat.eq_of_beq_eq_true hbk
                                  subst hkt
                                  rw [if_pos (by simp)]
                                  cases hold : lkp s6.r x.2 with
                                  | none => rw [hold] at hAdd; cases hAdd
                                  | some old =>
                                    cases hsrc : lkp s6.r u with
                                    | none => rw [hold, hsrc] at hAdd; cases hAdd
                                    | some src =>
                                      rw [hold, hsrc] at hAdd
                                      simp only at hAdd
                                      split at hAdd
                                      · rename_i hgd
                                        injection hAdd with hAdd
                                        subst hAdd
                                        simp only [Bool.and_eq_true] at hgd
                                        have k1 := Nat.le_of_ble_eq_true hgd.1
                                        have k2 := Nat.le_of_ble_eq_true hgd.2.1
                                        have k3 : ∀ r ∈ src, r.length ≤ 100 := fun r hr => Nat.le_of_ble_eq_true (List.all_eq_true.mp hgd.2.2 r hr)
                                        obtain ⟨ad, vs, a1, a2, a3, a4, _⟩ := z6.rl.get hold
                                        obtain ⟨au, vu, b1, b2, b3, b4, _⟩ := z6.rl.get hsrc
                                        have gd : DGet H6 dr (.str (S x.2)) (some (.ref ad)) := by
                                          have := DGet.k (k := Sum.inr (S x.2)) z6.r
                                          rw [a2] at this
                                          exact this
                                        have gu : DGet H6 dr (.str (S u)) (some (.ref au)) := by
                                          have := DGet.k (k := Sum.inr (S u)) z6.r
                                          rw [b2] at this
                                          exact this
                                        refine ⟨_, rfl, _, rfl, dr, _, rfl, gd, _, rfl, .inl ⟨rfl, _, sqL_of a3⟩, _, rfl, _, rfl, dr, _, rfl, gu, au, rfl, ⟨_, sqL_of b3⟩, fun Dd hDd => ?_⟩
                                        obtain ⟨Rc, hRc⟩ : ∃ Rc : List PyData → List V → Hp → Prop, ∀ r acc H7, Rc r acc H7 ↔ ∃ (rs ds : List (List Pull)), r = rs.map dRow ∧ Same H6 H7 ∧ DpAll K (nwx (Dd :: fl :: dl :: dr :: A') H H7) acc (ds.map dRow) ∧ ds ++ rs.map (fun r => r ++ [x.1]) = src.map (fun r => r ++ [x.1]) ∧ (∀ r ∈ rs, r.length ≤ 100) ∧ ds.length + rs.length ≤ 1000 := ⟨_, fun _ _ _ => Iff.rfl⟩
                                        refine lc_listR2 (F := H6) (F2 := nwx (fl :: dl :: dr :: A') H H6) (sqL_of b3) b4 Rc (fun r acc H7 h => ?_) ((hRc _ _ _).mpr ⟨src, [], rfl, same_new hDd, .nil, rfl, k3, by simpa using k2⟩) ?_ ?_
                                        · obtain ⟨rs, ds, _, e7, _⟩ := (hRc _ _ _).mp h
                                          exact e7
                                        · intro d r acc v H7 hD7 hR hv
                                          obtain ⟨rs, ds, hrs, e7, hd7, hM7, h100, hln⟩ := (hRc _ _ _).mp hR
                                          cases rs with
                                          | nil => cases hrs
                                          | cons r0 rs =>
                                            obtain ⟨rfl, rfl⟩ := List.cons.inj hrs
                                            obtain ⟨a7, xs7, rfl, hs7, hd8⟩ := dp_tupI hv
                                            have hX : ∀ x ∈ Dd :: fl :: dl :: dr :: A', ∃ o, H7 x = some o := fun x hx => by
                                              rcases List.mem_cons.mp hx with c | c
                                              · exact ⟨_, c ▸ hD7⟩
                                              · obtain ⟨o, ho⟩ := z6.live x c
                                                exact ⟨o, e7 _ _ ho⟩
                                            have sm7 : Same H H7 := z6.sm.trans e7
                                            have eX : SX (Dd :: fl :: dl :: dr :: A') H H7 := SX.of sm7
                                            have hDd6 : Same (nwx (fl :: dl :: dr :: A') H H6) (nwx (Dd :: fl :: dl :: dr :: A') H H7) := fun b o h => by
                                              have hb : ¬ b ∈ fl :: dl :: dr :: A' := fun c => by rw [nwx_none c] at h; cases h
                                              obtain ⟨h0, h1⟩ := nw_of (nwx_nw _ _ h)
                                              refine nwx_at (fun c => ?_) h0 (e7 _ _ h1)
                                              rcases List.mem_cons.mp c with c | c
                                              · rw [c, hDd] at h1
                                                cases h1
                                              · exact hb c
                                            have hacc : acc.length ≤ 1000 := by
                                              have := dpA_len hd7
                                              simp at this hln
                                              omega
                                            have hx7 : xs7.length ≤ 100 := by
                                              have := dpA_len hd8
                                              have h1 := h100 r0 (by simp)
                                              simp at this
                                              omega
                                            simp [LcTurn, LcN, tSeq, tIfS, tOr, tAnd, tNot, tB, tCB, tCons, tNil, tVar, tC, tTest, tChain, rI0, rI, tOp, tUn, rU, tRet, tRetN, tNext, rNe, rEq, tAug, tAsg, gName, ipI, tDrop, tIf, tFld, tM1, tTup, tLst, tSl, tPart, rSlS, rIxS, tCall, tMeth, tProp, tMake, gTup, gCons, gNil, tPar, rAppend, tyV, tThen, tNotN, tIsN, tNotV, tRg1, tLstRg, scal, flds_word, gSub, tBM, S_len, S_app, S_count, S_take, S_drop, S_cut, S_rep, lit_d, lit_o, lit_do, lit_od, lit_e, L2.start, wipe, and_assoc, tAndV, tOrV, tNoPart, Int.ofNat_inj, tYes]
                                            intro pt hpt
                                            have e8 := same_new (o := HO.tup [vp]) hpt
                                            have hvp : Dp K (nwx (Dd :: fl :: dl :: dr :: A') H H7) vp (dPull x.1) := Dp.same d1 (e62.trans hDd6)
                                            have fin : ∀ (v : V) (H8 : Hp), Same H7 H8 → Dp K (nwx (Dd :: fl :: dl :: dr :: A') H H8) v (dRow (r0 ++ [x.1])) → ∃ acc_1, H8 Dd = some (.lst acc_1) ∧ acc_1.length < sizeLine ∧ ∃ acc_2, upd H8 Dd (.lst (acc_1 ++ [v])) Dd = some (.lst acc_2) ∧ Rc (List.map dRow rs) acc_2 (upd H8 Dd (.lst (acc_1 ++ [v]))) := by
                                              intro v H8 e9 hv8
                                              refine ⟨acc, e9 _ _ hD7, big' (by omega), _, upd_same, (hRc _ _ _).mpr ⟨rs, ds ++ [r0 ++ [x.1]], rfl, same_mut (e7.trans e9) hDd, ?_, by rw [List.append_assoc]; exact hM7, fun r h => h100 r (by simp [h]), by simp at hln ⊢; omega⟩⟩
                                              rw [List.map_append]
                                              exact (app_val (X := Dd :: fl :: dl :: dr :: A') (by simp) (DpAll.same hd7 (nwx_mono (SX.of e9))) hv8).2
                                            refine ⟨a7, pt, xs7, [vp], rfl, rfl, seqT_same ((eD6.trans e7).trans e8) hs7, sqT_of upd_same, by simp; exact big (by omega), ?_, ?_, ?_⟩
                                            · intro hx0
                                              subst hx0
                                              have hr0 : r0 = [] := by
                                                have := dpA_len hd8
                                                rw [List.length_map] at this
                                                exact List.length_eq_zero_iff.mp this.symm
                                              subst hr0
                                              exact fin _ _ e8 (dp_tup (nwx_at (new_not hX hpt) (new_old eX hX hpt) upd_same) (.cons (Dp.same hvp (nwx_mono (SX.of e8))) .nil))
                                            · intro _ h
                                              cases h
                                            · intro _ _ p7 hp7
                                              have e9 := e8.trans (same_new (o := HO.tup (xs7 ++ [vp])) hp7)
                                              have hp77 := none_back e8 hp7
                                              refine fin (.ref p7) _ e9 (dp_tup (nwx_at (new_not hX hp77) (new_old eX hX hp77) upd_same) ?_)
                                              rw [List.map_append]
                                              exact dpA_app (DpAll.same hd8 (hDd6.trans (nwx_mono (SX.of e9)))) (.cons (Dp.same hvp (nwx_mono (SX.of e9))) .nil)
                                        · intro acc H7 hD7 hR
                                          obtain ⟨rs, ds, hrs, e7, hd7, hM7, h100, hln⟩ := (hRc _ _ _).mp hR
                                          cases rs with
                                          | cons r0 rs => cases hrs
                                          | nil =>
                                            rw [List.map_nil, List.append_nil] at hM7
                                            subst hM7
                                            obtain ⟨ad', vs', c1, c2, c3, c4, c5⟩ := z6.add hold e7 hDd hd7
                                            have : ad' = ad := by
                                              rw [a2] at c1
                                              injection c1 with c1
                                              injection c1 with c1
                                              exact c1.symm
                                            subst this
                                            have hln2 : acc.length ≤ 1000 := by
                                              have := dpA_len hd7
                                              simp at this hln
                                              omega
                                            refine ⟨ad', Dd, vs', acc, rfl, rfl, e7 _ _ c2, hD7, big (by omega), ?_⟩
                                            rw [hDn]
                                            exact (hP2 _ _ _).mpr ⟨xs, A', _, _, _, _, _, rfl, rfl, c4, e61.trans c5, e62.trans c5, hF5⟩
                                      · cases hAdd
                            cases hb : lkp s.l x.2 with
                            | some kk =>
                              have hrn : rNew tn s x.2 = s := by
                                unfold rNew
                                rw [hb]
                              rw [hrn] at hSt
                              have gk : DGet H5 dl (.str (S x.2)) (some (.int (kk : Nat))) := by
                                have := DGet.k (k := Sum.inr (S x.2)) z5.l
                                rw [valV_Lk, hb] at this
                                exact this
                              refine ⟨_, rfl, _, rfl, dl, _, rfl, gk, _, rfl, ?_⟩
                              exact part2 A s H5 _ z5 e51 e52 hSt rfl
                            | none =>
                              have hrn : rNew tn s x.2 = ⟨s.l ++ [(x.2, tn)], s.r ++ [(x.2, [])], s.f ++ [x.2]⟩ := by
                                unfold rNew
                                rw [hb]
                              rw [hrn] at hSt
                              have gk : DGet H5 dl (.str (S x.2)) none := by
                                have := DGet.k (k := Sum.inr (S x.2)) z5.l
                                rw [valV_Lk, hb] at this
                                exact this
                              refine ⟨_, rfl, _, rfl, dl, _, rfl, gk, _, rfl, ?_⟩
                              have nd := z5.nd
                              simp only [List.nodup_cons, List.mem_cons, not_or] at nd
                              obtain ⟨⟨f1, f2, f3⟩, ⟨n1', n2'⟩, n3', _⟩ := nd
                              have hll : (Lk s.l).length ≤ 1000 := by
                                unfold Lk
                                rw [List.length_map]
                                exact g1
                              refine ⟨_, rfl, _, rfl, _, rfl, dl, _, rfl, DPut.k (k := Sum.inr (S x.2)) z5.l (big' (by omega)), Nat.zero_le _, fun ad had => ?_⟩
                              obtain ⟨had5, nad⟩ := new_ne had
                              have hdr6 : upd (upd H5 dl (.dK (putK (Lk s.l) (Sum.inr (S x.2)) (.int (tn : Nat))))) ad (.lst []) dr = some (.dK (Rk s.r A)) := by
                                refine some_new ?_ had
                                rw [upd_ne (Ne.symm n1')]
                                exact z5.r
                              refine ⟨_, rfl, _, rfl, dr, _, rfl, DPut.k (k := Sum.inr (S x.2)) hdr6 (big' (Nat.le_trans (Rk_len s.r A) (by omega))), ?_⟩
                              have hfl6 : upd (upd (upd H5 dl (.dK (putK (Lk s.l) (Sum.inr (S x.2)) (.int (tn : Nat))))) ad (.lst [])) dr (.dK (putK (Rk s.r A) (Sum.inr (S x.2)) (.ref ad))) fl = some (.lst (s.f.map fun w => V.str (S w))) := by
                                rw [upd_ne f2]
                                refine some_new ?_ had
                                rw [upd_ne f1]
                                exact z5.f
                              obtain ⟨z7, D7⟩ := z5.newW (turn := tn) hb had5
                              refine ⟨_, rfl, .inl ⟨rfl, _, sqL_of hfl6⟩, _, rfl, fl, _, _, rfl, rfl, hfl6, by rw [List.length_map]; exact big' (by omega), ?_⟩
                              exact part2 _ _ _ _ z7 (e51.trans D7) (e52.trans D7) hSt rfl
                          · cases hSt
                · intro σ H5 hP5
                  obtain ⟨xs, A, s, y8, y9, y10, y11, hxs, rfl, z5, e51, e52, hF5⟩ := (hP2 _ _ _).mp hP5
                  cases xs with
                  | cons x xs => cases hxs
                  | nil =>
                    unfold rFold at hF5
                    injection hF5 with hF5
                    subst hF5
                    exact (hPi _ _ _).mpr ⟨ws, A, s, _, _, _, _, _, rfl, rfl, z5, e51, hW3⟩
            · cases hW3
        · intro σ H3 hP3
          obtain ⟨ws, A, s, y7, y8, y9, y10, y11, hws, rfl, z3, e3, hW3⟩ := (hPi _ _ _).mp hP3
          cases ws with
          | cons u ws => cases hws
          | nil =>
            unfold rWords at hW3
            injection hW3 with hW3
            subst hW3
            simp [tSeq, tIfS, tOr, tAnd, tNot, tB, tCB, tCons, tNil, tVar, tC, tTest, tChain, rI0, rI, tOp, tUn, rU, tRet, tRetN, tNext, rNe, rEq, tAug, tAsg, gName, ipI, tDrop, tIf, tFld, tM1, tTup, tLst, tSl, tPart, rSlS, rIxS, tCall, tMeth, tProp, tMake, gTup, gCons, gNil, tPar, rAppend, tyV, tThen, tNotN, tIsN, tNotV, tRg1, tLstRg, scal, flds_word, gSub, tBM, S_len, S_app, S_count, S_take, S_drop, S_cut, S_rep, lit_d, lit_o, lit_do, lit_od, lit_e, L2.start, wipe, and_assoc, tAndV, tOrV, tNoPart, Int.ofNat_inj]
            exact (hPo _ _ _).mpr ⟨fl, A, s, _, _, _, _, _, _, _, rfl, z3, by rw [← htn, show n - tn = n - tn from rfl]; exact hT⟩
    · intro σ H2 hP
      obtain ⟨q, A, s, x5, x6, x7, x8, x9, x10, x11, rfl, z, hT⟩ := (hPo _ _ _).mp hP
      rw [Nat.sub_self] at hT
      unfold rTurns at hT
      injection hT with hT
      subst hT
      simp [tSeq, tIfS, tOr, tAnd, tNot, tB, tCB, tCons, tNil, tVar, tC, tTest, tChain, rI0, rI, tOp, tUn, rU, tRet, tRetN, tNext, rNe, rEq, tAug, tAsg, gName, ipI, tDrop, tIf, tFld, tM1, tTup, tLst, tSl, tPart, rSlS, rIxS, tCall, tMeth, tProp, tMake, gTup, gCons, gNil, tPar, rAppend, tyV, tThen, tNotN, tIsN, tNotV, tRg1, tLstRg, scal, flds_word, gSub, tBM, S_len, S_app, S_count, S_take, S_drop, S_cut, S_rep, lit_d, lit_o, lit_do, lit_od, lit_e, L2.start, wipe, and_assoc, tAndV, tOrV, tNoPart, Int.ofNat_inj]
      intro t ht
      have e3 := z.sm.trans (same_new (o := HO.tup [V.ref dl, V.ref dr]) ht)
      have h0 := none_back z.sm ht
      refine k _ t e3 ⟨dl, dr, A, by rw [nw_at h0, upd_same], by rw [nw_at (z.new dl (by simp))]; exact some_new z.l ht, by rw [nw_at (z.new dr (by simp))]; exact some_new z.r ht, z.rl.mono (nwx_nw.trans (nw_new ht)) fun a ha => ?_⟩
      obtain ⟨o, hao⟩ := z.rl.live a ha
      rw [nw_at (z.new a (by simp [ha])), hao]
      exact some_new hao ht
end
end K12
set_option Elab.async false
set_option linter.all false
set_option maxRecDepth 100000
set_option maxHeartbeats 4000000
namespace K12
open PySem PySem.Spec PyProof.Rows L2 K12M
abbrev s_l_right : Stmt := top 35
theorem sc_l_right : FnScope ["_law_word_here", "_law_size", "_law_some", "_law_column", "_law_orders_here", "_law_told", "_law_many", "_law_here", "_law_step", "_law_pull_here", "_law_row_here", "_law_order"] ["_law_word_here", "_law_size", "_law_some"] (defScope s_l_right) := ⟨rfl, rfl, rfl, by decide +kernel, rfl, by decide +kernel, by decide +kernel⟩
section
variable {P : Program} {w : World} {K : PySem.W.Frag} {mg : Str → Option Value} {base : Heap} {C : Addr}
theorem passE0 {X : Cx} : Passes (L2.CX X.prog X.w) X E0 := fun _ _ _ _ _ _ _ h => by
  obtain ⟨a, B, H', cls, d, ea, fl, hok, ub, na, os, ag, he⟩ := h
  exact he.elim
theorem noStop0 : NoStop K E0 := fun _ _ _ h => h.elim
theorem mapM_len {α β : Type} (f : α → Option β) : ∀ (l : List α) (r : List β), l.mapM f = some r → r.length = l.length
  | [], r, h => by
    simp at h
    simp [← h]
  | a :: l, r, h => by
    rw [List.mapM_cons] at h
    cases h1 : f a with
    | none => simp [h1] at h
    | some b =>
      cases h2 : l.mapM f with
      | none => simp [h1, h2] at h
      | some r' =>
        simp [h1, h2] at h
        rw [← h]
        simp [mapM_len f l r' h2]
theorem good_parts {u : Wd} (h : goodW u = true) : okW u = true ∧ (odM u).length = ridgesM u ∧ ∃ rows, toldM u = some rows ∧ (ordersM (ridgesM u)).mapM (lawRowM u) = some rows ∧ fact (ridgesM u) = (ordersM (ridgesM u)).length ∧ rowM u (ridgesM u) (List.range (ridgesM u)).reverse = rows.getLast? ∧ ∀ r ∈ rows, playGo u (plainW (u.length / 2)) r = true := by
  unfold goodW at h
  simp only [Bool.and_eq_true] at h
  obtain ⟨h1, h2, h3⟩ := h
  refine ⟨h1, Nat.eq_of_beq_eq_true h2, ?_⟩
  split at h3
  · rename_i rows g1
    split at h3
    · rename_i rows' g2
      simp only [Bool.and_eq_true] at h3
      obtain ⟨h4, h5, h6, h7⟩ := h3
      have h4 := eq_of_beq h4
      subst h4
      exact ⟨rows, g1, g2, Nat.eq_of_beq_eq_true h5, eq_of_beq h6, fun r hr => List.all_eq_true.mp h7 r hr⟩
    · cases h3
  · cases h3
def rows_d (rows : List (List Pull)) : List PyData := rows.map dRow
theorem dPull_lay (q : Pull) : (dPull q).canLay0 = true ∧ (dPull q).depth ≤ 1 := by
  simp [dPull, PyData.canLay0, PyData.canLayAll0, PyData.depth, PyData.depthAll]
theorem dRow_lay (r : List Pull) : (dRow r).canLay0 = true ∧ (dRow r).depth ≤ 2 := by
  obtain ⟨h1, h2⟩ := shp (ds := r.map dPull) (n := 1) fun x hx => by
    obtain ⟨q, _, rfl⟩ := List.mem_map.mp hx
    exact dPull_lay q
  simp [dRow, PyData.canLay0, PyData.depth, h1]
  omega
theorem rows_sh (rows : List (List Pull)) : SeqAt.shaped (.list (rows_d rows)) = true := shp_list (n := 2) (by decide) fun x hx => by
  obtain ⟨q, _, rfl⟩ := List.mem_map.mp hx
  exact dRow_lay q
theorem eqvAll_map {α : Type} (f : α → PyData) (h : ∀ a, PyData.eqv (f a) (f a) = true) : ∀ l : List α, PyData.eqvAll (l.map f) (l.map f) = true
  | [] => by simp [PyData.eqvAll]
  | a :: l => by simp [PyData.eqvAll, h a, eqvAll_map f h l]
theorem pull_eq (q : Pull) : PyData.eqv (dPull q) (dPull q) = true := by simp [dPull, PyData.eqv, PyData.eqvAll]
theorem row_eq (r : List Pull) : PyData.eqv (dRow r) (dRow r) = true := by
  simp [dRow, PyData.eqv]
  exact eqvAll_map _ pull_eq r
theorem rows_eq (rows : List (List Pull)) : PyData.eqv (.list (rows_d rows)) (.list (rows_d rows)) = true := by
  simp [PyData.eqv]
  exact eqvAll_map _ row_eq rows
theorem row_sh (r : List Pull) : SeqAt.shaped (dRow r) = true := by
  obtain ⟨h1, h2⟩ := dRow_lay r
  simp [SeqAt.shaped, h1]
  omega
theorem fact_pos : ∀ n, 0 < fact n
  | 0 => by decide
  | n + 1 => Nat.mul_pos (fact_pos n) (Nat.succ_pos n)
theorem plain_ok : ∀ n, n < 7 → 1 ≤ n → okW (plainW n) = true := by decide +kernel
theorem dpA_appI {H : Hp} : ∀ {xs : List V} {ds es : List PyData}, DpAll K H xs (ds ++ es) → ∃ x1 x2, xs = x1 ++ x2 ∧ DpAll K H x1 ds ∧ DpAll K H x2 es
  | xs, [], es, h => ⟨[], xs, rfl, .nil, h⟩
  | _, d :: ds, es, .cons a t => by
    obtain ⟨x1, x2, e, h1, h2⟩ := dpA_appI (ds := ds) t
    exact ⟨_ :: x1, x2, by rw [e]; rfl, .cons a h1, h2⟩
/-! ### _law_right -/
def spRight : Sp := fun vs H Q _ => ∃ (u : Wd) (n : Nat) (k : Nat), vs = [.str (S u), .int (n : Int), .int (k : Int)] ∧ u.length = 2 * n ∧ 1 ≤ n ∧ n ≤ 6 ∧ goodW u = true ∧ Txt.count (S u) (S [false, true]) = ((odM u).length : Int) ∧ ridgesM u ≤ 5 ∧ ∀ H', Same H H' → Q (.bl true) H'
theorem cl_right (T : Txt K mg C) (clord : Cl P w K mg base 1 "_law_orders" ["_law_many"] (spLOrders K)) (cpl : Cl P w K mg base 1 "_law_plain" ["_law_row_here"] (spPlain K)) (clr : Cl P w K mg base 2 "_law_row" ["_law_word_here", "_law_order"] (spLRow K))
    (cmany : Cl P w K mg base 5 "how_many_fewest" ["column"] (spMany C)) (cfew : Cl P w K mg base 6 "fewest_pulls" ["column"] (spFew K C)) (clp : Cl P w K mg base 2 "_law_pull" ["_law_word_here", "_law_pull_here"] (spLPull K)) (cpul : ClR P w K mg base 5 "pulled_column" (spPulled K C))
    {f_i : Addr} {fd_i : FuncData} (m_init : Mk K C f_i) (F_init : FnOk P w K mg base CX0 2 f_i fd_i ["self", "word"] (spInit C)) (b_init : Binds K fd_i ["self", "word"] [])
    {f_g : Addr} {fd_g : FuncData} (G_rows : GFn P w K mg base 6 f_g fd_g ["column"] (spRowsG K C)) (g_rows : mg "fewest_rows" = some (.ref f_g)) (k_rows : PySem.W.keepIn K (.ref f_g) = true) (b_rows : Binds K fd_g ["column"] [])
    (D : Df K mg "_law_right" s_l_right ["_law_word_here", "_law_size", "_law_some"]) : Cl P w K mg base 10 "_law_right" ["_law_word_here", "_law_size", "_law_some"] spRight := by
  obtain ⟨f__law_orders, fd__law_orders, F__law_orders, g__law_orders, k__law_orders, b__law_orders⟩ := clord
  obtain ⟨f__law_plain, fd__law_plain, F__law_plain, g__law_plain, k__law_plain, b__law_plain⟩ := cpl
  obtain ⟨f__law_row, fd__law_row, F__law_row, g__law_row, k__law_row, b__law_row⟩ := clr
  obtain ⟨f_how_many_fewest, fd_how_many_fewest, F_how_many_fewest, g_how_many_fewest, k_how_many_fewest, b_how_many_fewest⟩ := cmany
  obtain ⟨f_fewest_pulls, fd_fewest_pulls, F_fewest_pulls, g_fewest_pulls, k_fewest_pulls, b_fewest_pulls⟩ := cfew
  obtain ⟨f__law_pull, fd__law_pull, F__law_pull, g__law_pull, k__law_pull, b__law_pull⟩ := clp
  obtain ⟨f_pulled_column, F_pulled_column, g_pulled_column, k_pulled_column⟩ := cpul
  refine D.cl fun f fd F => F.ok sc_l_right (fun vs H Q E h => ?_) (fun cdv A outer s H vs Q E hr h => ?_)
  · obtain ⟨u, n, kk, rfl, _⟩ := h
    rfl
  · obtain ⟨u, n, kk, rfl, hlen, hn1, hn, hgood, hod, hr5, k⟩ := h
    have hu := hu_of hr
    have hu64 := hr.units
    refine ⟨_, (pss_cons (ps_set (i := 3) sc_l_right.nd rfl (.inl rfl) (pe_make m_init F_init (hr.mono (by decide)) (by rfl) T.mgC b_init .nil pass0 (pa_cons (pv 0) pa_nil)))
      (pss_cons (ps_set (i := 4) sc_l_right.nd rfl (.inl rfl) (pe_call F__law_orders (hr.mono (by decide)) (by rfl) g__law_orders k__law_orders b__law_orders .nil pass0 (pa_cons (pe_m1 PySem.F.slot_str_count PySem.F.type_str_count mt_count (pv 0) pe_str) pa_nil)))
      (pss_cons (ps_set (i := 5) sc_l_right.nd rfl (.inl rfl) (pe_listG (pgen_call (E := E0) G_rows (hr.mono (by decide)) (by rfl) g_rows k_rows b_rows .nil (pa_cons (pv 3) pa_nil)) passE0 noStop0 (hr.mono (by decide)) (by rfl) T.list_ (by decide +kernel)))
      (pss_cons (ps_if (PW.pt (pw_or (pt_not (pt_val (pe_callB (cr_all rfl) (by rfl) T.all_ (by decide +kernel) (pa_cons (pe_lc (own := [("_law_row_here", 10)]) (by rfl) sc_l_right.nd (pi_list (pv 5)) (blkOk_by (N := ["_law_word_here", "_law_size", "_law_some", "_law_column", "_law_orders_here", "_law_told", "_law_many", "_law_here", "_law_step", "_law_pull_here", "_law_row_here", "_law_order"]) (sc := defScope s_l_right) (own := [("_law_row_here", 10)]) (by decide +kernel)) (fun _ _ _ _ _ => pg_name (i := 10) sc_l_right.nd rfl (.inl rfl)) (fun _ _ _ _ _ => pts_nil) (fun _ _ _ _ _ => (pe_call F__law_plain (hr.mono (by decide)) (by rfl) g__law_plain k__law_plain b__law_plain .nil pass0 (pa_cons (pv 10) pa_nil)))) pa_nil)))) (pw_or1 (pt_cmpR (op_neD hu64) (pv 5) (pe_lc (own := [("_law_order", 11)]) (by rfl) sc_l_right.nd (pi_list (pv 4)) (blkOk_by (N := ["_law_word_here", "_law_size", "_law_some", "_law_column", "_law_orders_here", "_law_told", "_law_many", "_law_here", "_law_step", "_law_pull_here", "_law_row_here", "_law_order"]) (sc := defScope s_l_right) (own := [("_law_order", 11)]) (by decide +kernel)) (fun _ _ _ _ _ => pg_name (i := 11) sc_l_right.nd rfl (.inl rfl)) (fun _ _ _ _ _ => pts_nil) (fun _ _ _ _ _ => (pe_call F__law_row (hr.mono (by decide)) (by rfl) g__law_row k__law_row b__law_row .nil pass0 (pa_cons (pv 0) (pa_cons (pv 11) pa_nil))))) (nomark _))))) (pss_one (ps_ret pe_bl)) pss_nil)
      (pss_cons (ps_set (i := 6) sc_l_right.nd rfl (.inl rfl) (pe_call F_how_many_fewest (hr.mono (by decide)) (by rfl) g_how_many_fewest k_how_many_fewest b_how_many_fewest .nil pass0 (pa_cons (pv 3) pa_nil)))
      (pss_cons (ps_if (PW.pt (pw_or (pt_cmpR op_ne (pv 6) (pe_callB call_len_seq (by rfl) T.len_ PySem.boot_len (pa_cons (pv 4) pa_nil)) (nomark _)) (pw_or (pt_val (pe_callB call_isi (by rfl) T.isinstance_ (by decide +kernel) (pa_cons (pv 6) (pa_cons (pe_bltn (v := .ty "bool") (u := .type "bool") (by rfl) T.bool_ (by decide +kernel) rfl) pa_nil)))) (pw_or (pt_cmpR (op_neD hu64) (pe_call F_fewest_pulls (hr.mono (by decide)) (by rfl) g_fewest_pulls k_fewest_pulls b_fewest_pulls .nil pass0 (pa_cons (pv 3) pa_nil)) (pe_ix ix_list (pv 5) (pe_un un_neg pe_int) (fun _ _ => rfl)) (nomark _)) (pw_or1 (pt_not (pt_val (pe_call F__law_plain (hr.mono (by decide)) (by rfl) g__law_plain k__law_plain b__law_plain .nil pass0 (pa_cons (pe_call F_fewest_pulls (hr.mono (by decide)) (by rfl) g_fewest_pulls k_fewest_pulls b_fewest_pulls .nil pass0 (pa_cons (pv 3) pa_nil)) pa_nil))))))))) (pss_one (ps_ret pe_bl)) pss_nil)
      (pss_cons (ps_set (i := 7) sc_l_right.nd rfl (.inl rfl) (pe_op op_add_str (pe_op K12R.op_mulS pe_str (pv 1)) (pe_op K12R.op_mulS pe_str (pv 1))))
      (pss_cons (ps_set (i := 8) sc_l_right.nd rfl (.inl rfl) (pe_make m_init F_init (hr.mono (by decide)) (by rfl) T.mgC b_init .nil pass0 (pa_cons (pv 7) pa_nil)))
      (pss_cons (ps_for PassesOwn.never rfl (pi_tup (pe_ix ix_list (pv 5) (pe_op op_mod (pe_callTy call_int1 (by rfl) T.int_ (by decide +kernel) (pa_cons (pv 2) pa_nil)) (pe_callB call_len_seq (by rfl) T.len_ PySem.boot_len (pa_cons (pv 5) pa_nil))) (fun _ _ => rfl))) (pg_name (i := 9) sc_l_right.nd rfl (.inl rfl)) (pss_cons (ps_set (i := 7) sc_l_right.nd rfl (.inl rfl) (pe_call F__law_pull (hr.mono (by decide)) (by rfl) g__law_pull k__law_pull b__law_pull .nil pass0 (pa_cons (pv 7) (pa_cons (pv 9) pa_nil))))
      (pss_cons (ps_if (pt_cmpR op_isN (pv 7) pe_non (nomark _)) (pss_one (ps_ret pe_bl)) pss_nil)
      (pss_cons (ps_set (i := 8) sc_l_right.nd rfl (.inl rfl) (pe_callR F_pulled_column (hr.mono (by decide)) k_pulled_column (by rfl) g_pulled_column pass0 (pa_cons (pv 8) (pa_cons (pv 9) pa_nil))))
      (pss_one (ps_if (pt_cmpR op_ne (pe_fld (pv 8) rfl) (pv 7) (nomark _)) (pss_one (ps_ret pe_bl)) pss_nil))))))
      (pss_one (ps_ret (pe_and (pe_cmpR op_eq (pv 7) (pv 0) (nomark _)) (pe_one (pe_cmpR op_eq (pe_fld (pv 3) rfl) (pv 0) (nomark _))))))))))))))), ?_⟩
    obtain ⟨hok, hodr, rows, hrows, hrows', hfact, hfew, hplay⟩ := good_parts hgood
    obtain ⟨h2, h12⟩ := okW_len hok
    obtain ⟨hol, hop⟩ := ordPerm (ridgesM u) (by omega)
    have hrl : rows.length = (ordersM (ridgesM u)).length := mapM_len _ _ _ hrows'
    simp [tSeq, tIfS, tOr, tAnd, tNot, tB, tCB, tCons, tNil, tVar, tC, tTest, tChain, rI0, rI, tOp, tUn, rU, tRet, tRetN, tNext, rNe, rEq, tAug, tAsg, gName, ipI, tDrop, tIf, tFld, tM1, tTup, tLst, tSl, tPart, rSlS, rIxS, tCall, tMeth, tProp, tMake, gTup, gCons, gNil, tPar, rAppend, tyV, tThen, tNotN, tIsN, tNotV, tRg1, tLstRg, scal, flds_word, gSub, tBM, S_len, S_app, S_count, S_take, S_drop, S_cut, S_rep, lit_d, lit_o, lit_do, lit_od, lit_e, L2.start, wipe, and_assoc, tAndV, tOrV, tNoPart, Int.ofNat_inj]
    rw [hod, hodr]
    refine mk_col hok fun H1 x e1 hcx nx => ?_
    refine ⟨ridgesM u, rfl, by omega, fun H2 v2 e2 hv2 => ?_⟩
    obtain ⟨ao, xo, rfl, hso, hdo⟩ := dp_lstI hv2
    refine ⟨_, rfl, x, u, rows, rfl, hcx.same e2, by omega, hr5, hrows, fun H3 out e3 hout tl htl => ?_⟩
    have hout3 : DpAll K H3 out (rows.map dRow) := DpAll.same hout nw_sub
    have eB3 := same_new (o := HO.lst out) htl
    obtain ⟨B3, hB3⟩ : ∃ B3 : Hp, B3 = upd H3 tl (.lst out) := ⟨_, rfl⟩
    have htB : B3 tl = some (.lst out) := by rw [hB3, upd_same]
    rw [← hB3] at eB3 ⊢
    have houtB : DpAll K B3 out (rows.map dRow) := DpAll.same hout3 eB3
    have hoB : SqL K B3 ao xo := ((nw_sub.trans e3).trans eB3).seq hso
    have hcB : ColAt C B3 x u := ((hcx.same e2).same e3).same eB3
    have eH : Same H B3 := ((e1.trans e2).trans e3).trans eB3
    refine ⟨_, rfl, tl, rfl, ⟨_, sqL_of htB⟩, fun D1 hD1 => ?_⟩
    obtain ⟨R1, hR1⟩ : ∃ R1 : List PyData → List V → Hp → Prop, ∀ r acc H4, R1 r acc H4 ↔ ∃ (rs : List (List Pull)) (m : Nat), r = rs.map dRow ∧ acc = (List.replicate m true).map V.bl ∧ Same B3 H4 ∧ m + rs.length ≤ 1000 := ⟨_, fun _ _ _ => Iff.rfl⟩
    refine lc_listR (F := B3) (sqL_of htB) houtB R1 (fun r acc H4 h => ?_) ((hR1 _ _ _).mpr ⟨rows, 0, rfl, rfl, same_new hD1, by omega⟩) ?_ ?_
    · obtain ⟨rs, m, _, _, e, _⟩ := (hR1 _ _ _).mp h
      exact e
    · intro d r acc v H4 hD4 hR hv
      obtain ⟨rs, m, hrs, rfl, e4, hm⟩ := (hR1 _ _ _).mp hR
      cases rs with
      | nil => cases hrs
      | cons row rs =>
        obtain ⟨rfl, rfl⟩ := List.cons.inj hrs
        simp at hm
        simp [LcTurn, LcN, tSeq, tIfS, tOr, tAnd, tNot, tB, tCB, tCons, tNil, tVar, tC, tTest, tChain, rI0, rI, tOp, tUn, rU, tRet, tRetN, tNext, rNe, rEq, tAug, tAsg, gName, ipI, tDrop, tIf, tFld, tM1, tTup, tLst, tSl, tPart, rSlS, rIxS, tCall, tMeth, tProp, tMake, gTup, gCons, gNil, tPar, rAppend, tyV, tThen, tNotN, tIsN, tNotV, tRg1, tLstRg, scal, flds_word, gSub, tBM, S_len, S_app, S_count, S_take, S_drop, S_cut, S_rep, lit_d, lit_o, lit_do, lit_od, lit_e, L2.start, wipe, and_assoc, tAndV, tOrV, tNoPart, Int.ofNat_inj, tYes]
        refine ⟨v, row, rfl, Dp.same hv e4, fun H5 e5 => ⟨_, e5 _ _ hD4, by simp; exact big' (by omega), _, upd_same, (hR1 _ _ _).mpr ⟨rs, m + 1, rfl, ?_, same_mut (e4.trans e5) hD1, by omega⟩⟩⟩
        rw [List.replicate_succ', List.map_append]
        simp
    · intro acc B4 hD4 hR
      obtain ⟨rs, m, hrs, rfl, e4, hm⟩ := (hR1 _ _ _).mp hR
      refine ⟨D1, List.replicate m true, rfl, sqL_of hD4, ?_⟩
      have hall : (List.replicate m true).all id = true := by simp
      rw [hall]
      refine .inr ⟨rfl, ?_⟩
      refine ⟨_, rfl, ao, rfl, ⟨_, e4.seq hoB⟩, fun D2 hD2 => ?_⟩
      obtain ⟨R2, hR2⟩ : ∃ R2 : List PyData → List V → Hp → Prop, ∀ r acc H5, R2 r acc H5 ↔ ∃ (os : List (List Nat)) (done rest : List (List Pull)), r = os.map dOrd ∧ Same B4 H5 ∧ DpAll K (nwx [D2] B4 H5) acc (done.map dRow) ∧ os.mapM (lawRowM u) = some rest ∧ done ++ rest = rows ∧ (∀ o ∈ os, o.length ≤ 12) ∧ acc.length + os.length ≤ 1000 := ⟨_, fun _ _ _ => Iff.rfl⟩
      have eF : Same (nw H1 H2) B4 := ((nw_sub.trans e3).trans eB3).trans e4
      refine lc_listR (F := nw H1 H2) hso hdo R2 (fun r acc H5 h => ?_) ((hR2 _ _ _).mpr ⟨ordersM (ridgesM u), [], rows, rfl, same_new hD2, .nil, hrows', rfl, fun o h => by have := (hop o h).1; omega, by simp; omega⟩) ?_ ?_
      · obtain ⟨os, done, rest, _, e5, _⟩ := (hR2 _ _ _).mp h
        exact eF.trans e5
      · intro d r acc v H5 hD5 hR hv
        obtain ⟨os, done, rest, hos, e5, hd5, hm5, hrw, h100, hln⟩ := (hR2 _ _ _).mp hR
        cases os with
        | nil => cases hos
        | cons o os =>
          obtain ⟨rfl, rfl⟩ := List.cons.inj hos
          obtain ⟨a7, xs7, rfl, hs7, hd7⟩ := dp_tupI hv
          have := ints_dpA _ hd7
          subst this
          rw [List.mapM_cons] at hm5
          cases hrow : lawRowM u o with
          | none => simp [hrow] at hm5
          | some row =>
            cases hrest : os.mapM (lawRowM u) with
            | none => simp [hrow, hrest] at hm5
            | some rest' =>
              simp [hrow, hrest] at hm5
              subst hm5
              simp at hln
              simp [LcTurn, LcN, tSeq, tIfS, tOr, tAnd, tNot, tB, tCB, tCons, tNil, tVar, tC, tTest, tChain, rI0, rI, tOp, tUn, rU, tRet, tRetN, tNext, rNe, rEq, tAug, tAsg, gName, ipI, tDrop, tIf, tFld, tM1, tTup, tLst, tSl, tPart, rSlS, rIxS, tCall, tMeth, tProp, tMake, gTup, gCons, gNil, tPar, rAppend, tyV, tThen, tNotN, tIsN, tNotV, tRg1, tLstRg, scal, flds_word, gSub, tBM, S_len, S_app, S_count, S_take, S_drop, S_cut, S_rep, lit_d, lit_o, lit_do, lit_od, lit_e, L2.start, wipe, and_assoc, tAndV, tOrV, tNoPart, Int.ofNat_inj, tYes]
              refine ⟨a7, u, o, row, rfl, seqT_same (eF.trans e5) hs7, h100 o (by simp), hrow, fun H6 v e6 hv6 => ⟨_, e6 _ _ hD5, big' (by omega), _, upd_same, (hR2 _ _ _).mpr ⟨os, done ++ [row], rest', rfl, same_mut (e5.trans e6) hD2, ?_, hrest, by rw [← hrw]; simp, fun o' h' => h100 o' (by simp [h']), by simp; omega⟩⟩⟩
              rw [List.map_append]
              have hX : ∀ x ∈ [D2], ∃ o, H5 x = some o := by simp [hD5]
              exact (app_val (X := [D2]) (by simp) (DpAll.same hd5 (nwx_mono (SX.of e6))) (Dp.same hv6 (nw_nwx (SX.of e5) hX))).2
      · intro acc B5 hD5 hR
        obtain ⟨os, done, rest, hos, e5, hd5, hm5, hrw, h100, hln⟩ := (hR2 _ _ _).mp hR
        cases os with
        | cons o os => cases hos
        | nil =>
          simp at hm5
          subst hm5
          rw [List.append_nil] at hrw
          subst hrw
          have e35 := e4.trans e5
          have ht5 := e35 _ _ htB
          refine ⟨.list (rows_d done), .list (rows_d done), dp_lst ht5 (DpAll.same houtB e35), dp_lst hD5 (DpAll.same hd5 (nwx_nw.trans nw_sub)), rows_sh done, rows_sh done, ?_⟩
          rw [rows_eq]
          refine .inl ⟨rfl, x, u, rfl, hcB.same e35, h12, fun H7 e7 => ?_⟩
          refine ⟨ao, rfl, xo, .inl ((e35.trans e7).seq hoB), rfl, .inl ⟨?_, isi_ib ?_⟩⟩
          · have := dpA_len hdo
            simp at this
            rw [this, hfact]
          have hpos : 0 < done.length := by
            rw [hrl, ← hfact]
            exact fact_pos _
          cases hgl : done.getLast? with
          | none =>
            have := List.getLast?_eq_none_iff.mp hgl
            rw [this] at hpos
            simp at hpos
          | some row0 =>
            rw [hgl] at hfew
            obtain ⟨ini, hini⟩ := List.getLast?_eq_some_iff.mp hgl
            have houtB' := houtB
            rw [hini, List.map_append] at houtB'
            obtain ⟨x0, xl, hxo, hd0, hdl⟩ := dpA_appI houtB'
            cases hdl with
            | cons hvl hnil =>
              cases hnil
              rename_i vl
              have e37 := e35.trans e7
              have htE : ∀ {Hx : Hp}, Same B3 Hx → Hx tl = some (.lst (x0 ++ [vl])) := fun e => by rw [← hxo]; exact e _ _ htB
              refine .inl ⟨rfl, x, u, row0, rfl, hcB.same e37, h12, hfew, fun H8 v8 e8 hv8 => ?_⟩
              have e38 := e37.trans e8
              refine rIxL_i (sqL_of (htE e38)) at_last ⟨dRow row0, dRow row0, Dp.same hv8 nw_sub, Dp.same hvl e38, row_sh _, row_sh _, ?_⟩
              rw [row_eq]
              refine .inl ⟨rfl, x, u, row0, rfl, hcB.same e38, h12, hfew, fun H9 v9 e9 hv9 => ⟨v9, row0, rfl, Dp.same hv9 nw_sub, fun H10 e10 => .inr ⟨rfl, by omega, big (by omega), ?_⟩⟩⟩
              have hpl : List.replicate n true ++ List.replicate n false = plainW n := rfl
              rw [hpl]
              refine mk_col (plain_ok n (by omega) hn1) fun H11 y e11 hcy ny => ?_
              have e311 := ((e38.trans e9).trans e10).trans e11
              have hjl : kk % done.length < done.length := Nat.mod_lt _ hpos
              obtain ⟨vr, hvr, hdr⟩ := dpA_get (d := dRow done[kk % done.length]) houtB (by rw [List.getElem?_map, List.getElem?_eq_getElem hjl]; rfl)
              have hplr := hplay done[kk % done.length] (List.getElem_mem hjl)
              generalize done[kk % done.length] = rowk at hdr hplr
              obtain ⟨ar, xr, rfl, hsr, hdr2⟩ := dp_tupI hdr
              have holn : out.length = done.length := by
                have := dpA_len houtB
                simpa using this
              obtain ⟨jj, hjj⟩ : ∃ jj, jj = kk % done.length := ⟨_, rfl⟩
              rw [← hjj] at hvr
              have hmod : (kk : Int) % (done.length : Int) = (jj : Int) := by
                rw [hjj]
                omega
              obtain ⟨Pv, hPv⟩ : ∃ Pv : List PyData → L2.St → Hp → Prop, ∀ r σ H12, Pv r σ H12 ↔ ∃ (ps : List Pull) (w : Wd) (y : Addr) (x9 x10 x11 : Option V), r = ps.map dPull ∧ σ = [some (.str (S u)), some (.int (n : Int)), some (.int (kk : Int)), some (.ref x), some (.ref ao), some (.ref tl), some (.int ((fact (ridgesM u) : Nat) : Int)), some (.str (S w)), some (.ref y), x9, x10, x11] ∧ Same H11 H12 ∧ ColAt C H12 y w ∧ w.length ≤ 12 ∧ playGo u w ps = true := ⟨_, fun _ _ _ => Iff.rfl⟩
              refine forJ (Itt K ar) H11 (fun R hR => ?_) (for_tupD (F := B3) hsr hdr2 Pv (fun r σ H12 h => ?_) ((hPv _ _ _).mpr ⟨rowk, plainW n, y, none, none, none, rfl, rfl, Same.refl _, hcy, by simp [plainW]; omega, by rw [show n = u.length / 2 from by omega]; exact hplr⟩) ?_ ?_)
              · simp [tSeq, tIfS, tOr, tAnd, tNot, tB, tCB, tCons, tNil, tVar, tC, tTest, tChain, rI0, rI, tOp, tUn, rU, tRet, tRetN, tNext, rNe, rEq, tAug, tAsg, gName, ipI, tDrop, tIf, tFld, tM1, tTup, tLst, tSl, tPart, rSlS, rIxS, tCall, tMeth, tProp, tMake, gTup, gCons, gNil, tPar, rAppend, tyV, tThen, tNotN, tIsN, tNotV, tRg1, tLstRg, scal, flds_word, gSub, tBM, S_len, S_app, S_count, S_take, S_drop, S_cut, S_rep, lit_d, lit_o, lit_do, lit_od, lit_e, L2.start, wipe, and_assoc, tAndV, tOrV, tNoPart, Int.ofNat_inj, iTup]
                refine ⟨out, .inl (sqL_of (e311 _ _ htB)), by omega, ?_⟩
                rw [holn, hmod]
                exact rIxL_i (sqL_of (e311 _ _ htB)) (at_lt hvr) ⟨ar, rfl, ⟨_, seqT_same e311 hsr⟩, hR⟩
              · obtain ⟨ps, w, y, _, _, _, _, _, e12, _⟩ := (hPv _ _ _).mp h
                exact e311.trans e12
              · intro d r v σ H12 hP hv
                obtain ⟨ps, w, y, x9, x10, x11, hps, rfl, e12, hcy, hwl, hpg⟩ := (hPv _ _ _).mp hP
                cases ps with
                | nil => cases hps
                | cons p ps =>
                  obtain ⟨rfl, rfl⟩ := List.cons.inj hps
                  unfold playGo at hpg
                  simp only [Bool.and_eq_true] at hpg
                  obtain ⟨hokw, hpok, hpg⟩ := hpg
                  split at hpg
                  · rename_i w' hlp
                    simp only [Bool.and_eq_true] at hpg
                    obtain ⟨hw', hokw', hpg⟩ := hpg
                    have hw' := eq_of_beq hw'
                    have hb := (okW_len hokw').2
                    have hb2 := hb
                    rw [hw'] at hb2
                    have hpk := hpok
                    unfold pullOk at hpk
                    simp only [Bool.and_eq_true] at hpk
                    obtain ⟨_, _, q1, q2, q3, q4⟩ := hpk
                    have q1 := Nat.le_of_ble_eq_true q1
                    have q3 := Nat.le_of_ble_eq_true q3
                    have q4 := Nat.le_of_ble_eq_true q4
                    simp [pulledM, made] at hb2
                    simp [tSeq, tIfS, tOr, tAnd, tNot, tB, tCB, tCons, tNil, tVar, tC, tTest, tChain, rI0, rI, tOp, tUn, rU, tRet, tRetN, tNext, rNe, rEq, tAug, tAsg, gName, ipI, tDrop, tIf, tFld, tM1, tTup, tLst, tSl, tPart, rSlS, rIxS, tCall, tMeth, tProp, tMake, gTup, gCons, gNil, tPar, rAppend, tyV, tThen, tNotN, tIsN, tNotV, tRg1, tLstRg, scal, flds_word, gSub, tBM, S_len, S_app, S_count, S_take, S_drop, S_cut, S_rep, lit_d, lit_o, lit_do, lit_od, lit_e, L2.start, wipe, and_assoc, tAndV, tOrV, tNoPart, Int.ofNat_inj, T.cl, T.nW]
                    refine ⟨w, v, p, rfl, hwl, Dp.same hv (e311.trans e12), by omega, by omega, fun H13 e13 => ?_⟩
                    rw [show oV (lawPullM w p) = .str (S w') from by rw [hlp]; rfl]
                    simp [tSeq, tIfS, tOr, tAnd, tNot, tB, tCB, tCons, tNil, tVar, tC, tTest, tChain, rI0, rI, tOp, tUn, rU, tRet, tRetN, tNext, rNe, rEq, tAug, tAsg, gName, ipI, tDrop, tIf, tFld, tM1, tTup, tLst, tSl, tPart, rSlS, rIxS, tCall, tMeth, tProp, tMake, gTup, gCons, gNil, tPar, rAppend, tyV, tThen, tNotN, tIsN, tNotV, tRg1, tLstRg, scal, flds_word, gSub, tBM, S_len, S_app, S_count, S_take, S_drop, S_cut, S_rep, lit_d, lit_o, lit_do, lit_od, lit_e, L2.start, wipe, and_assoc, tAndV, tOrV, tNoPart, Int.ofNat_inj, T.cl, T.nW]
                    refine ⟨y, w, v, p, rfl, hcy.same e13, hwl, Dp.same hv ((e311.trans e12).trans e13), hpok, by rw [← hw']; exact hokw', fun H14 y' e14 hc14 => ?_⟩
                    obtain ⟨dx14, h14⟩ := hc14
                    simp [tSeq, tIfS, tOr, tAnd, tNot, tB, tCB, tCons, tNil, tVar, tC, tTest, tChain, rI0, rI, tOp, tUn, rU, tRet, tRetN, tNext, rNe, rEq, tAug, tAsg, gName, ipI, tDrop, tIf, tFld, tM1, tTup, tLst, tSl, tPart, rSlS, rIxS, tCall, tMeth, tProp, tMake, gTup, gCons, gNil, tPar, rAppend, tyV, tThen, tNotN, tIsN, tNotV, tRg1, tLstRg, scal, flds_word, gSub, tBM, S_len, S_app, S_count, S_take, S_drop, S_cut, S_rep, lit_d, lit_o, lit_do, lit_od, lit_e, L2.start, wipe, and_assoc, tAndV, tOrV, tNoPart, Int.ofNat_inj, T.cl, T.nW, h14]
                    refine .inl ⟨hw'.symm, ?_⟩
                    exact (hPv _ _ _).mpr ⟨ps, w', y', _, _, _, rfl, rfl, (e12.trans e13).trans e14, ⟨dx14, by rw [hw']; exact h14⟩, hb, hpg⟩
                  · cases hpg
              · intro σ H12 hP
                obtain ⟨ps, w, y, x9, x10, x11, hps, rfl, e12, hcy, hwl, hpg⟩ := (hPv _ _ _).mp hP
                cases ps with
                | cons p ps => cases hps
                | nil =>
                  unfold playGo at hpg
                  have hpg := eq_of_beq hpg
                  subst hpg
                  obtain ⟨dxx, hxx⟩ := (hcB.same e311).same e12
                  simp [tSeq, tIfS, tOr, tAnd, tNot, tB, tCB, tCons, tNil, tVar, tC, tTest, tChain, rI0, rI, tOp, tUn, rU, tRet, tRetN, tNext, rNe, rEq, tAug, tAsg, gName, ipI, tDrop, tIf, tFld, tM1, tTup, tLst, tSl, tPart, rSlS, rIxS, tCall, tMeth, tProp, tMake, gTup, gCons, gNil, tPar, rAppend, tyV, tThen, tNotN, tIsN, tNotV, tRg1, tLstRg, scal, flds_word, gSub, tBM, S_len, S_app, S_count, S_take, S_drop, S_cut, S_rep, lit_d, lit_o, lit_do, lit_od, lit_e, L2.start, wipe, and_assoc, tAndV, tOrV, tNoPart, Int.ofNat_inj, T.cl, T.nW, hxx]
                  exact k _ (eH.trans (e311.trans e12))
end
end K12
set_option Elab.async false
set_option linter.all false
set_option maxRecDepth 100000
set_option maxHeartbeats 4000000
namespace K12
open PySem PySem.Spec PyProof.Rows L2 K12M
abbrev s_law : Stmt := top 36
theorem sc_law : FnScope ["_law_script", "_law_hand_here", "_law_size", "_law_least", "_law_rows", "_law_words", "_law_word_here", "_law_drawn", "_law_wide"] ["_law_script"] (defScope s_law) := ⟨rfl, rfl, rfl, by decide +kernel, rfl, by decide +kernel, by decide +kernel⟩
section
variable {P : Program} {w : World} {K : PySem.W.Frag} {mg : Str → Option Value} {base : Heap} {C : Addr}
theorem le_all : PySem.W.TotalLe leD := by
  have h := PySem.W.sortLe_total (PyProof.Rows.listOrd PyProof.Rows.itemOrd) false (fun b : PyData => PySem.W.keyToks (id b))
  exact h
theorem le_tot (a b : PyData) : (leD a b || leD b a) = true := by
  rcases le_all.total a b with h | h <;> simp [h]
theorem le_tr (a b c : PyData) : leD a b = true → leD b c = true → leD a c = true := le_all.trans a b c
theorem told_ne : ∀ n, n < 5 → ((allM n).all fun w => match toldM w with
  | some told => Nat.ble told.length 1 || told.all fun a => !a.isEmpty
  | none => false) = true := by decide +kernel
theorem alike_pull (p q : Pull) : PySem.W.alike (dPull p) (dPull q) = true := by simp [dPull, PySem.W.alike, PySem.W.alikeAll]
theorem alike_pulls : ∀ a b : List Pull, PySem.W.alikeAll (a.map dPull) (b.map dPull) = true
  | [], _ => by simp [PySem.W.alikeAll]
  | _ :: _, [] => by simp [PySem.W.alikeAll]
  | p :: a, q :: b => by simp [PySem.W.alikeAll, alike_pull, alike_pulls a b]
theorem alike_row (a b : List Pull) : PySem.W.alike (dRow a) (dRow b) = true := by
  simp [dRow, PySem.W.alike]
  exact alike_pulls a b
theorem rows_sortable {rs : List (List Pull)} (h : rs.length ≤ 1 ∨ ∀ r ∈ rs, r ≠ []) : (rs.map dRow).length ≤ 1 ∨ (PySem.W.AllAlike (rs.map dRow) ∧ PySem.W.Sortable (rs.map dRow) ∧ ∀ d ∈ rs.map dRow, d.depth ≤ 10) := by
  rcases h with h | h
  · exact .inl (by simpa using h)
  · refine .inr ⟨fun d hd d' hd' => ?_, .inl fun d hd => ?_, fun d hd => ?_⟩
    · obtain ⟨a, _, rfl⟩ := List.mem_map.mp hd
      obtain ⟨b, _, rfl⟩ := List.mem_map.mp hd'
      exact alike_row a b
    · obtain ⟨a, ha, rfl⟩ := List.mem_map.mp hd
      cases a with
      | nil => exact absurd rfl (h _ ha)
      | cons p a => exact ⟨dPull p, a.map dPull, rfl⟩
    · obtain ⟨a, _, rfl⟩ := List.mem_map.mp hd
      have := (dRow_lay a).2
      omega
theorem words_sortable (ws : List Wd) : (ws.map dWd).length ≤ 1 ∨ (PySem.W.AllAlike (ws.map dWd) ∧ PySem.W.Sortable (ws.map dWd) ∧ ∀ d ∈ ws.map dWd, d.depth ≤ 10) := by
  refine .inr ⟨fun d hd d' hd' => ?_, .inr fun d hd => ?_, fun d hd => ?_⟩
  · obtain ⟨a, _, rfl⟩ := List.mem_map.mp hd
    obtain ⟨b, _, rfl⟩ := List.mem_map.mp hd'
    simp [dWd, PySem.W.alike]
  · obtain ⟨a, _, rfl⟩ := List.mem_map.mp hd
    exact ⟨fun c => (by cases c), fun xs c => (by cases c)⟩
  · obtain ⟨a, _, rfl⟩ := List.mem_map.mp hd
    simp [dWd, PyData.depth]
theorem strOk_S : ∀ w : Wd, PyData.strOk (S w) = true := fun w => by
  unfold PyData.strOk
  show Array.all (w.map sg).toArray _ = true
  rw [List.all_toArray]
  refine List.all_eq_true.mpr fun x hx => ?_
  obtain ⟨b, _, rfl⟩ := List.mem_map.mp hx
  cases b <;> decide
theorem words_sh (ws : List Wd) : SeqAt.shaped (.list (ws.map dWd)) = true := shp_list (n := 0) (by decide) fun x hx => by
  obtain ⟨q, _, rfl⟩ := List.mem_map.mp hx
  simp [dWd, PyData.canLay0, PyData.depth, strOk_S]
theorem words_eq (ws : List Wd) : PyData.eqv (.list (ws.map dWd)) (.list (ws.map dWd)) = true := by
  simp [PyData.eqv]
  exact eqvAll_map _ (fun w => by simp [dWd, PyData.eqv]) ws
theorem good_all : ∀ (n : Nat) (u : Wd), 1 ≤ n → n ≤ 6 → u ∈ allM n → goodW u = true
  | 1, u, _, _, h => List.all_eq_true.mp good1 u h
  | 2, u, _, _, h => List.all_eq_true.mp good2 u h
  | 3, u, _, _, h => List.all_eq_true.mp good3 u h
  | 4, u, _, _, h => List.all_eq_true.mp good4 u h
  | 5, u, _, _, h => List.all_eq_true.mp good5 u h
  | 6, u, _, _, h => List.all_eq_true.mp good6 u h
theorem word_facts {n : Nat} {u : Wd} (h1 : 1 ≤ n) (h6 : n ≤ 6) (h : u ∈ allM n) : u.length = 2 * n ∧ goodW u = true ∧ Txt.count (S u) (S [false, true]) = ((odM u).length : Int) ∧ ridgesM u ≤ 5 := by
  have g1 := List.all_eq_true.mp (ridges5 n (by omega)) u h
  simp only [Bool.and_eq_true] at g1
  have g2 := List.all_eq_true.mp (count_od n (by omega)) u h
  exact ⟨Nat.eq_of_beq_eq_true g1.2, good_all n u h1 h6 h, eq_of_beq g2, Nat.le_of_ble_eq_true g1.1⟩
theorem word_ok {s : RSt} {u : Wd} (h : okWord s u = true) : ∃ rs told, lkp s.l u = some (ridgesM u) ∧ Txt.count (S u) (S [false, true]) = ((ridgesM u : Nat) : Int) ∧ lkp s.r u = some rs ∧ toldM u = some told ∧ rs.Perm told ∧ ∀ a ∈ told, ∀ b ∈ told, leD (dRow a) (dRow b) = true → leD (dRow b) (dRow a) = true → a = b := by
  unfold okWord at h
  split at h
  · rename_i k hk
    simp only [Bool.and_eq_true] at h
    obtain ⟨h1, h2, h3, h4⟩ := h
    have h2 := Nat.eq_of_beq_eq_true h2
    subst h2
    split at h4
    · rename_i rs told g1 g2
      simp only [Bool.and_eq_true] at h4
      refine ⟨rs, told, hk, eq_of_beq h3, g1, g2, List.isPerm_iff.mp h4.1, fun a ha b hb e1 e2 => ?_⟩
      have := List.all_eq_true.mp (List.all_eq_true.mp h4.2 a ha) b hb
      simp only [e1, e2] at this
      simpa using this
    · cases h4
  · cases h
theorem allM_pos : ∀ n, n < 5 → 1 ≤ (allM n).length := by decide +kernel
theorem HandAt.same {H H' : Hp} {h : Addr} (z : HandAt H h) (e : Same H H') : HandAt H' h := by
  obtain ⟨c, cells, i, r, t, g1, g2, g3⟩ := z
  exact ⟨c, cells, i, r, t, e _ _ g1, e _ _ g2, g3⟩
/-- two permuted lists sort alike -/
theorem sort_eq {l m : List PyData} (hp : l.Perm m) (ha : ∀ a ∈ m, ∀ b ∈ m, leD a b = true → leD b a = true → a = b) : l.mergeSort (PySem.W.dataLe false id) = m.mergeSort (PySem.W.dataLe false id) := by
  have p1 : (l.mergeSort (PySem.W.dataLe false id)).Perm m := (List.mergeSort_perm _ _).trans hp
  have p2 : (m.mergeSort (PySem.W.dataLe false id)).Perm m := List.mergeSort_perm _ _
  exact List.Perm.eq_of_pairwise (le := fun a b => leD a b = true) (fun a b h1 h2 => ha a (p1.mem_iff.mp h1) b (p2.mem_iff.mp h2)) (List.pairwise_mergeSort (le := PySem.W.dataLe false id) le_tr le_tot l) (List.pairwise_mergeSort (le := PySem.W.dataLe false id) le_tr le_tot m) (p1.trans p2.symm)
theorem sort_is {l m : List PyData} (hp : l.Perm m) (hw : m.Pairwise fun a b => leD a b = true) (ha : ∀ a ∈ m, ∀ b ∈ m, leD a b = true → leD b a = true → a = b) : l.mergeSort (PySem.W.dataLe false id) = m := by
  have p1 : (l.mergeSort (PySem.W.dataLe false id)).Perm m := (List.mergeSort_perm _ _).trans hp
  exact List.Perm.eq_of_pairwise (le := fun a b => leD a b = true) (fun a b h1 h2 => ha a (p1.mem_iff.mp h1) b h2) (List.pairwise_mergeSort (le := PySem.W.dataLe false id) le_tr le_tot l) hw p1
theorem reach_parts (n : Nat) (h1 : 1 ≤ n) (h4 : n ≤ 4) : ∃ s, reachedM n = some s ∧ (s.l.map Prod.fst).Perm (allM n) ∧ (∀ w ∈ allM n, okWord s w = true) ∧ ((allM n).Pairwise fun a b => leD (dWd a) (dWd b) = true) ∧ ∀ a ∈ allM n, ∀ b ∈ allM n, leD (dWd a) (dWd b) = true → leD (dWd b) (dWd a) = true → a = b := by
  have h := reach_ok n (by omega)
  have hz : (n == 0) = false := beq_eq_false_iff_ne.mpr (by omega)
  rw [hz] at h
  simp only [Bool.false_eq_true, if_false] at h
  unfold okReach at h
  split at h
  · rename_i s hs
    simp only [Bool.and_eq_true] at h
    obtain ⟨g1, g2, g3, g4⟩ := h
    refine ⟨s, hs, List.isPerm_iff.mp g1, fun w hw => List.all_eq_true.mp g2 w hw, of_decide_eq_true g3, fun a ha b hb e1 e2 => ?_⟩
    have := List.all_eq_true.mp (List.all_eq_true.mp g4 a ha) b hb
    simp only [e1, e2] at this
    simpa using this
  · cases h
/-! ### law -/
def spLaw (K : PySem.W.Frag) : Sp := fun vs H Q _ => ∃ (a : Addr) (ns : List Int), vs = [.ref a] ∧ SqL K H a (ns.map V.int) ∧ ns.length ≤ 63 ∧ ∀ H', Q (.bl true) H'
theorem ok_law (T : Txt K mg C) (chand : Cl P w K mg base 1 "_law_hand" ["_law_script"] (spHand K)) (cdraw : Cl P w K mg base 2 "_law_draw" ["_law_hand_here", "_law_many"] spDraw) (creach : Cl P w K mg base 4 "_law_reached" ["_law_size"] (spReach K)) (call_ : Cl P w K mg base 1 "_law_all_words" ["_law_size"] (spAll K))
    (cright : Cl P w K mg base 10 "_law_right" ["_law_word_here", "_law_size", "_law_some"] spRight) (cword : Cl P w K mg base 3 "_law_word" ["_law_hand_here", "_law_size"] spWord) (crd : ClP P w K mg base 3 C "ridges" (spGet K C fun u => .int (ridgesM u : Nat)))
    {f_i : Addr} {fd_i : FuncData} (m_init : Mk K C f_i) (F_init : FnOk P w K mg base CX0 2 f_i fd_i ["self", "word"] (spInit C)) (b_init : Binds K fd_i ["self", "word"] [])
    {f_g : Addr} {fd_g : FuncData} (G_rows : GFn P w K mg base 6 f_g fd_g ["column"] (spRowsG K C)) (g_rows : mg "fewest_rows" = some (.ref f_g)) (k_rows : PySem.W.keepIn K (.ref f_g) = true) (b_rows : Binds K fd_g ["column"] [])
    {f : Addr} {fd : FuncData} (F : Fun K "law" "law" s_law f fd) : FnOk P w K mg base CX0 11 f fd ["_law_script"] (spLaw K) := by
  obtain ⟨f__law_hand, fd__law_hand, F__law_hand, g__law_hand, k__law_hand, b__law_hand⟩ := chand
  obtain ⟨f__law_draw, fd__law_draw, F__law_draw, g__law_draw, k__law_draw, b__law_draw⟩ := cdraw
  obtain ⟨f__law_reached, fd__law_reached, F__law_reached, g__law_reached, k__law_reached, b__law_reached⟩ := creach
  obtain ⟨f__law_all_words, fd__law_all_words, F__law_all_words, g__law_all_words, k__law_all_words, b__law_all_words⟩ := call_
  obtain ⟨f__law_right, fd__law_right, F__law_right, g__law_right, k__law_right, b__law_right⟩ := cright
  obtain ⟨f__law_word, fd__law_word, F__law_word, g__law_word, k__law_word, b__law_word⟩ := cword
  obtain ⟨_, g_ridges, fd_ridges, p_ridges, F_ridges, b_ridges⟩ := crd
  refine F.ok sc_law (fun vs H Q E h => ?_) (fun cdv A outer s H vs Q E hr h => ?_)
  · obtain ⟨a, ns, rfl, _⟩ := h
    rfl
  · obtain ⟨a, ns, rfl, hs, hns, k⟩ := h
    have hu := hu_of hr
    have hu64 := hr.units
    refine ⟨_, (pss_cons (ps_set (i := 1) sc_law.nd rfl (.inl rfl) (pe_call F__law_hand (hr.mono (by decide)) (by rfl) g__law_hand k__law_hand b__law_hand .nil pass0 (pa_cons (pv 0) pa_nil)))
      (pss_cons (ps_set (i := 2) sc_law.nd rfl (.inl rfl) (pe_op op_add pe_int (pe_call F__law_draw (hr.mono (by decide)) (by rfl) g__law_draw k__law_draw b__law_draw .nil pass0 (pa_cons (pv 1) (pa_cons pe_int pa_nil)))))
      (pss_cons (ps_asg (pe_call F__law_reached (hr.mono (by decide)) (by rfl) g__law_reached k__law_reached b__law_reached .nil pass0 (pa_cons (pv 2) pa_nil)) (pg_tup (n := 2) rfl (pgs_cons (pg_name (i := 3) sc_law.nd rfl (.inl rfl)) (pgs_cons (pg_name (i := 4) sc_law.nd rfl (.inl rfl)) pgs_nil))))
      (pss_cons (ps_set (i := 5) sc_law.nd rfl (.inl rfl) (pe_call F__law_all_words (hr.mono (by decide)) (by rfl) g__law_all_words k__law_all_words b__law_all_words .nil pass0 (pa_cons (pv 2) pa_nil)))
      (pss_cons (ps_if (pt_cmpR (op_neD hu64) (pe_callB (K12R.cr_sortedD hu64) (by rfl) T.sorted_ (by decide +kernel) (pa_cons (pe_lock (pe_lc (own := [("_law_word_here", 6)]) (by rfl) sc_law.nd (pi_keys (pv 3)) (blkOk_by (N := ["_law_script", "_law_hand_here", "_law_size", "_law_least", "_law_rows", "_law_words", "_law_word_here", "_law_drawn", "_law_wide"]) (sc := defScope s_law) (own := [("_law_word_here", 6)]) (by decide +kernel)) (fun _ _ _ _ _ => pg_name (i := 6) sc_law.nd rfl (.inl rfl)) (fun _ _ _ _ _ => pts_nil) (fun _ _ _ _ _ => (pv 6)))) pa_nil)) (pv 5) (nomark _)) (pss_one (ps_ret pe_bl)) pss_nil)
      (pss_cons (ps_for PassesOwn.never rfl (pi_list (pv 5)) (pg_name (i := 6) sc_law.nd rfl (.inl rfl)) (pss_cons (ps_if (PW.pt (pw_or (pt_cmpR op_ne (pe_dget hu (pv 3) (pv 6) (fun _ _ => rfl)) (pe_m1 PySem.F.slot_str_count PySem.F.type_str_count mt_count (pv 6) pe_str) (nomark _)) (pw_or1 (pt_cmpR op_ne (pe_prop (pe_make m_init F_init (hr.mono (by decide)) (by rfl) T.mgC b_init .nil pass0 (pa_cons (pv 6) pa_nil)) T.cl p_ridges F_ridges (hr.mono (by decide)) b_ridges .nil pass0 rfl) (pe_dget hu (pv 3) (pv 6) (fun _ _ => rfl)) (nomark _))))) (pss_one (ps_ret pe_bl)) pss_nil)
      (pss_one (ps_if (pt_cmpR (op_neD hu64) (pe_callB (K12R.cr_sortedD hu64) (by rfl) T.sorted_ (by decide +kernel) (pa_cons (pe_dget hu (pv 4) (pv 6) (fun _ _ => rfl)) pa_nil)) (pe_callB (K12R.cr_sortedD hu64) (by rfl) T.sorted_ (by decide +kernel) (pa_cons (pe_listG (pgen_call (E := E0) G_rows (hr.mono (by decide)) (by rfl) g_rows k_rows b_rows .nil (pa_cons (pe_make m_init F_init (hr.mono (by decide)) (by rfl) T.mgC b_init .nil pass0 (pa_cons (pv 6) pa_nil)) pa_nil)) passE0 noStop0 (hr.mono (by decide)) (by rfl) T.list_ (by decide +kernel)) pa_nil)) (nomark _)) (pss_one (ps_ret pe_bl)) pss_nil))))
      (pss_cons (ps_set (i := 7) sc_law.nd rfl (.inl rfl) (pe_ix ix_list (pv 5) (pe_call F__law_draw (hr.mono (by decide)) (by rfl) g__law_draw k__law_draw b__law_draw .nil pass0 (pa_cons (pv 1) (pa_cons (pe_callB call_len_seq (by rfl) T.len_ PySem.boot_len (pa_cons (pv 5) pa_nil)) pa_nil))) (fun _ _ => rfl)))
      (pss_cons (ps_if (pt_not (pt_val (pe_call F__law_right (hr.mono (by decide)) (by rfl) g__law_right k__law_right b__law_right .nil pass0 (pa_cons (pv 7) (pa_cons (pv 2) (pa_cons (pe_call F__law_draw (hr.mono (by decide)) (by rfl) g__law_draw k__law_draw b__law_draw .nil pass0 (pa_cons (pv 1) (pa_cons pe_int pa_nil))) pa_nil)))))) (pss_one (ps_ret pe_bl)) pss_nil)
      (pss_cons (ps_set (i := 8) sc_law.nd rfl (.inl rfl) (pe_op op_add pe_int (pe_call F__law_draw (hr.mono (by decide)) (by rfl) g__law_draw k__law_draw b__law_draw .nil pass0 (pa_cons (pv 1) (pa_cons pe_int pa_nil)))))
      (pss_one (ps_ret (pe_call F__law_right (hr.mono (by decide)) (by rfl) g__law_right k__law_right b__law_right .nil pass0 (pa_cons (pe_call F__law_word (hr.mono (by decide)) (by rfl) g__law_word k__law_word b__law_word .nil pass0 (pa_cons (pv 1) (pa_cons (pv 8) pa_nil))) (pa_cons (pv 8) (pa_cons (pe_call F__law_draw (hr.mono (by decide)) (by rfl) g__law_draw k__law_draw b__law_draw .nil pass0 (pa_cons (pv 1) (pa_cons pe_int pa_nil))) pa_nil))))))))))))))), ?_⟩
    simp [tSeq, tIfS, tOr, tAnd, tNot, tB, tCB, tCons, tNil, tVar, tC, tTest, tChain, rI0, rI, tOp, tUn, rU, tRet, tRetN, tNext, rNe, rEq, tAug, tAsg, gName, ipI, tDrop, tIf, tFld, tM1, tTup, tLst, tSl, tPart, rSlS, rIxS, tCall, tMeth, tProp, tMake, gTup, gCons, gNil, tPar, rAppend, tyV, tThen, tNotN, tIsN, tNotV, tRg1, tLstRg, scal, flds_word, gSub, tBM, S_len, S_app, S_count, S_take, S_drop, S_cut, S_rep, lit_d, lit_o, lit_do, lit_od, lit_e, L2.start, wipe, and_assoc, tAndV, tOrV, tNoPart, Int.ofNat_inj]
    refine ⟨a, ns, rfl, hs, hns, fun H1 h e1 hh1 hh0 => ?_⟩
    refine ⟨h, 4, rfl, hh1, by decide, by decide, fun H2 j2 e2 hh2 hj2 => ⟨_, rfl, ?_⟩⟩
    obtain ⟨n, hn⟩ : ∃ n, n = 1 + j2 := ⟨_, rfl⟩
    have en : (1 : Int) + (j2 : Int) = (n : Int) := by omega
    have hn1 : 1 ≤ n := by omega
    have hn4 : n ≤ 4 := by omega
    rw [en]
    obtain ⟨sr, hsr, hperm, hwords, hpw, hanti⟩ := reach_parts n hn1 hn4
    refine ⟨n, sr, rfl, hn1, hn4, hsr, fun H3 t e3 hR => ?_⟩
    obtain ⟨dl, dr, A, hFt, hFl, hFr, hRL⟩ := hR
    have hF3 : Same (nw H2 H3) H3 := nw_sub
    refine ⟨t, rfl, _, sqT_of (hF3 _ _ hFt), rfl, _, _, rfl, _, _, rfl, rfl, ?_⟩
    refine ⟨n, rfl, hn4, fun H4 vw e4 hvw => ?_⟩
    obtain ⟨aw, xw, rfl, hsw, hdw⟩ := dp_lstI hvw
    have hl4 := e4 _ _ (hF3 _ _ hFl)
    have hneF : ∀ b o, nw H2 H3 b = some o → b ≠ h := fun b o hb c => by
      obtain ⟨g1, g2⟩ := nw_of hb
      obtain ⟨_, _, _, _, _, gh, _⟩ := hh2
      rw [c, gh] at g1
      cases g1
    refine ⟨dl, _, hl4, trivial, fun od => ?_⟩
    refine ⟨_, rfl, dl, od, rfl, .inl ⟨_, upd_same, fun D hD => ?_⟩⟩
    obtain ⟨Hf, hHf⟩ : ∃ Hf : Hp, Hf = upd H4 dl (.frz od (.dK (Lk sr.l))) := ⟨_, rfl⟩
    rw [← hHf] at hD ⊢
    have hfl : Hf dl = some (.frz od (.dK (Lk sr.l))) := by rw [hHf, upd_same]
    have hDl : D ≠ dl := fun c => by rw [c, hfl] at hD; cases hD
    have hlen : (Lk sr.l).length = sr.l.length := by
      unfold Lk
      rw [List.length_map]
    have hl100 : sr.l.length ≤ 100 := by
      have := hperm.length_eq
      rw [List.length_map] at this
      have g := lev_len n (2 * n) (Nat.le_refl _) hn4
      have : sr.l.length = (allGo n [[]] (2 * n)).length := this
      omega
    refine ⟨fun i m Hx => m = sr.l.length - i ∧ i ≤ sr.l.length ∧ Hx D = some (.lst (((sr.l.map Prod.fst).take i).map fun w => V.str (S w))) ∧ Same Hf Hx, ⟨sr.l.length, by simp, Nat.zero_le _, upd_same, same_new hD⟩, ?_⟩
    rintro i m Hx ⟨rfl, hi, hDx, ex⟩
    by_cases hlt : i < sr.l.length
    · refine .inr ⟨⟨ex _ _ hfl, by rw [hlen]; exact hlt⟩, fun H' => H' D = some (.lst (((sr.l.map Prod.fst).take (i + 1)).map fun w => V.str (S w))) ∧ Same Hf H', fun H' h' => ⟨sr.l.length - (i + 1), by omega, rfl, hlt, h'⟩, ?_⟩
      rintro v H' ⟨rfl, kk, vv, hkv, rfl⟩
      have hkv2 : kk = Sum.inr (S sr.l[i].1) := by
        unfold Lk at hkv
        rw [List.getElem?_map, List.getElem?_eq_getElem hlt] at hkv
        injection hkv with hkv
        injection hkv with hkv
        exact hkv.symm
      subst hkv2
      simp [tSeq, tIfS, tOr, tAnd, tNot, tB, tCB, tCons, tNil, tVar, tC, tTest, tChain, rI0, rI, tOp, tUn, rU, tRet, tRetN, tNext, rNe, rEq, tAug, tAsg, gName, ipI, tDrop, tIf, tFld, tM1, tTup, tLst, tSl, tPart, rSlS, rIxS, tCall, tMeth, tProp, tMake, gTup, gCons, gNil, tPar, rAppend, tyV, tThen, tNotN, tIsN, tNotV, tRg1, tLstRg, scal, flds_word, gSub, tBM, S_len, S_app, S_count, S_take, S_drop, S_cut, S_rep, lit_d, lit_o, lit_do, lit_od, lit_e, L2.start, wipe, and_assoc, tAndV, tOrV, tNoPart, Int.ofNat_inj, tYes]
      refine ⟨_, hDx, by simp; exact big' (by omega), ?_, same_mut ex hD⟩
      rw [upd_same, List.take_succ]
      simp [hlt, kV]
    · have hie : i = sr.l.length := by omega
      subst hie
      refine .inl ⟨⟨ex _ _ hfl, by rw [hlen]; exact Nat.le_refl _⟩, ex _ _ hfl, ?_⟩
      rw [List.take_of_length_le (by simp)] at hDx
      obtain ⟨H5, hH5⟩ : ∃ H5 : Hp, H5 = upd Hx dl (.dK (Lk sr.l)) := ⟨_, rfl⟩
      rw [← hH5]
      have e5 : Same H4 H5 := fun b o hb => by
        by_cases c : b = dl
        · rw [c, hl4] at hb
          rw [c, hH5, upd_same]
          exact hb
        · rw [hH5, upd_ne c]
          exact ex _ _ (by rw [hHf, upd_ne c]; exact hb)
      have hD5 : H5 D = some (.lst ((sr.l.map Prod.fst).map fun w => V.str (S w))) := by rw [hH5, upd_ne hDl]; exact hDx
      refine ⟨D, _, (sr.l.map Prod.fst).map dWd, rfl, sqL_of hD5, strs_dpA _, words_sortable _, fun p ys hp hys => ?_⟩
      rw [sort_is (hperm.map dWd) (List.pairwise_map.mpr hpw) (fun x hx y hy e1 e2 => by
        obtain ⟨u1, g1, rfl⟩ := List.mem_map.mp hx
        obtain ⟨u2, g2, rfl⟩ := List.mem_map.mp hy
        rw [hanti u1 g1 u2 g2 e1 e2])] at hys
      have e6 := same_new (o := HO.lst ys) hp
      have hF6 : Same (nw H3 H4) (upd H5 p (.lst ys)) := (nw_sub.trans e5).trans e6
      refine ⟨.list ((allM n).map dWd), .list ((allM n).map dWd), dp_lst upd_same (DpAll.same hys e6), .lst (hF6.seq hsw) (DpAll.same hdw hF6), words_sh _, words_sh _, ?_⟩
      rw [words_eq]
      obtain ⟨H6, hH6⟩ : ∃ H6 : Hp, H6 = upd H5 p (.lst ys) := ⟨_, rfl⟩
      rw [← hH6] at hF6 e6 ⊢
      have e36 : Same H3 H6 := (e4.trans e5).trans e6
      obtain ⟨Pv, hPv⟩ : ∃ Pv : List PyData → L2.St → Hp → Prop, ∀ r σ Hx, Pv r σ Hx ↔ ∃ (ws : List Wd) (x6 : Option V), r = ws.map dWd ∧ σ = [some (.ref a), some (.ref h), some (.int (n : Int)), some (.ref dl), some (.ref dr), some (.ref aw), x6, none, none] ∧ Same H6 Hx ∧ ∀ w ∈ ws, w ∈ allM n := ⟨_, fun _ _ _ => Iff.rfl⟩
      refine .inl ⟨rfl, _, rfl, aw, rfl, ⟨_, hF6.seq hsw⟩, for_listD (F := nw H3 H4) hsw hdw Pv (fun r σ Hx h => ?_) ((hPv _ _ _).mpr ⟨allM n, none, rfl, rfl, Same.refl _, fun _ h => h⟩) ?_ ?_⟩
      · obtain ⟨_, _, _, _, e, _⟩ := (hPv _ _ _).mp h
        exact hF6.trans e
      · intro d r v σ H7 hP hv
        obtain ⟨ws, x6, hws, rfl, e7, hall⟩ := (hPv _ _ _).mp hP
        cases ws with
        | nil => cases hws
        | cons u ws =>
          obtain ⟨rfl, rfl⟩ := List.cons.inj hws
          cases dp_strI hv
          have hu6 := hall u (by simp)
          obtain ⟨f1, f2, f3, f4⟩ := word_facts hn1 (by omega) hu6
          obtain ⟨rs, told, w1, w2, w3, w4, w5, w6⟩ := word_ok (hwords u hu6)
          obtain ⟨hok, _⟩ := good_parts f2
          have e37 := e36.trans e7
          have gk : ∀ Hx, Same H3 Hx → DGet Hx dl (.str (S u)) (some (.int (ridgesM u : Nat))) := fun Hx ex => by
            have := DGet.k (k := Sum.inr (S u)) (ex _ _ (hF3 _ _ hFl))
            rw [valV_Lk, w1] at this
            exact this
          obtain ⟨ad, vs, r1, r2, r3, r4, _⟩ := hRL.get w3
          have gd : ∀ Hx, Same H3 Hx → DGet Hx dr (.str (S u)) (some (.ref ad)) := fun Hx ex => by
            have := DGet.k (k := Sum.inr (S u)) (ex _ _ (hF3 _ _ hFr))
            rw [r2] at this
            exact this
          have tn : told.length ≤ 1 ∨ ∀ r ∈ told, r ≠ [] := by
            have g := List.all_eq_true.mp (told_ne n (by omega)) u hu6
            rw [w4] at g
            simp only [Bool.or_eq_true] at g
            rcases g with g | g
            · exact .inl (Nat.le_of_ble_eq_true g)
            · exact .inr fun r hr c => by
                have := List.all_eq_true.mp g r hr
                rw [c] at this
                simp at this
          have rn : rs.length ≤ 1 ∨ ∀ r ∈ rs, r ≠ [] := by
            rcases tn with g | g
            · exact .inl (by rw [w5.length_eq]; exact g)
            · exact .inr fun r hr => g r (w5.mem_iff.mp hr)
          simp [tSeq, tIfS, tOr, tAnd, tNot, tB, tCB, tCons, tNil, tVar, tC, tTest, tChain, rI0, rI, tOp, tUn, rU, tRet, tRetN, tNext, rNe, rEq, tAug, tAsg, gName, ipI, tDrop, tIf, tFld, tM1, tTup, tLst, tSl, tPart, rSlS, rIxS, tCall, tMeth, tProp, tMake, gTup, gCons, gNil, tPar, rAppend, tyV, tThen, tNotN, tIsN, tNotV, tRg1, tLstRg, scal, flds_word, gSub, tBM, S_len, S_app, S_count, S_take, S_drop, S_cut, S_rep, lit_d, lit_o, lit_do, lit_od, lit_e, L2.start, wipe, and_assoc, tAndV, tOrV, tNoPart, Int.ofNat_inj]
          refine ⟨_, rfl, _, rfl, dl, _, rfl, gk H7 e37, rfl, .inl ⟨by rw [w2], ?_⟩⟩
          refine mk_col hok fun H8 x e8 hcx _ => ?_
          obtain ⟨dxc, hcx'⟩ := hcx
          refine ⟨⟨_, _, hcx'⟩, x, u, rfl, ⟨dxc, hcx'⟩, by omega, fun H9 v e9 hv => ?_⟩
          cases dp_intI hv
          have e39 := (e37.trans e8).trans e9
          refine ⟨_, rfl, _, rfl, dl, _, rfl, gk H9 e39, rfl, .inl ⟨rfl, ?_⟩⟩
          refine ⟨_, rfl, _, rfl, dr, _, rfl, gd H9 e39, ?_⟩
          refine ⟨ad, vs, rs.map dRow, rfl, sqL_of (e39 _ _ (hF3 _ _ r3)), DpAll.same r4 (hF3.trans e39), rows_sortable rn, fun p1 y1 hp1 hy1 => ?_⟩
          have e10 := same_new (o := HO.lst y1) hp1
          simp [tSeq, tIfS, tOr, tAnd, tNot, tB, tCB, tCons, tNil, tVar, tC, tTest, tChain, rI0, rI, tOp, tUn, rU, tRet, tRetN, tNext, rNe, rEq, tAug, tAsg, gName, ipI, tDrop, tIf, tFld, tM1, tTup, tLst, tSl, tPart, rSlS, rIxS, tCall, tMeth, tProp, tMake, gTup, gCons, gNil, tPar, rAppend, tyV, tThen, tNotN, tIsN, tNotV, tRg1, tLstRg, scal, flds_word, gSub, tBM, S_len, S_app, S_count, S_take, S_drop, S_cut, S_rep, lit_d, lit_o, lit_do, lit_od, lit_e, L2.start, wipe, and_assoc, tAndV, tOrV, tNoPart, Int.ofNat_inj, tListG, tCallG]
          refine mk_col hok fun H11 x2 e11 hcx2 _ => ⟨x2, u, told, rfl, hcx2, by omega, f4, w4, fun H12 out e12 hout tl htl => ?_⟩
          have e13 := same_new (o := HO.lst out) htl
          refine ⟨tl, out, told.map dRow, rfl, sqL_of upd_same, DpAll.same hout (nw_sub.trans e13), rows_sortable tn, fun p2 y2 hp2 hy2 => ?_⟩
          have e14 := same_new (o := HO.lst y2) hp2
          have e1014 := ((e11.trans e12).trans e13).trans e14
          rw [sort_eq (w5.map dRow) (fun a ha b hb c1 c2 => by
            obtain ⟨a', g1, rfl⟩ := List.mem_map.mp ha
            obtain ⟨b', g2, rfl⟩ := List.mem_map.mp hb
            rw [w6 a' g1 b' g2 c1 c2])] at hy1
          have hlay : ∀ d ∈ (told.map dRow).mergeSort (PySem.W.dataLe false id), d.canLay0 = true ∧ d.depth ≤ 2 := fun d hd => by
            obtain ⟨r, _, rfl⟩ := List.mem_map.mp ((List.mergeSort_perm _ _).mem_iff.mp hd)
            exact dRow_lay r
          refine ⟨_, _, dp_lst (e1014 _ _ upd_same) (DpAll.same hy1 (e10.trans e1014)), dp_lst upd_same (DpAll.same hy2 e14), shp_list (n := 2) (by decide) hlay, shp_list (n := 2) (by decide) hlay, ?_⟩
          rw [PySem.SeqAt.eqv_refl _ (by simp [PyData.canLay0, (shp hlay).1])]
          exact .inl ⟨rfl, (hPv _ _ _).mpr ⟨ws, _, rfl, rfl, (((e7.trans e8).trans e9).trans e10).trans e1014, fun w hw => hall w (by simp [hw])⟩⟩
      · intro σ H7 hP
        obtain ⟨ws, x6, hws, rfl, e7, hall⟩ := (hPv _ _ _).mp hP
        simp [tSeq, tIfS, tOr, tAnd, tNot, tB, tCB, tCons, tNil, tVar, tC, tTest, tChain, rI0, rI, tOp, tUn, rU, tRet, tRetN, tNext, rNe, rEq, tAug, tAsg, gName, ipI, tDrop, tIf, tFld, tM1, tTup, tLst, tSl, tPart, rSlS, rIxS, tCall, tMeth, tProp, tMake, gTup, gCons, gNil, tPar, rAppend, tyV, tThen, tNotN, tIsN, tNotV, tRg1, tLstRg, scal, flds_word, gSub, tBM, S_len, S_app, S_count, S_take, S_drop, S_cut, S_rep, lit_d, lit_o, lit_do, lit_od, lit_e, L2.start, wipe, and_assoc, tAndV, tOrV, tNoPart, Int.ofNat_inj]
        have hhx : ∃ o, H3 h = some o := by
          obtain ⟨_, _, _, _, _, gh, _⟩ := hh2
          exact ⟨_, e3 _ _ gh⟩
        have hxl : xw.length = (allM n).length := by
          have := dpA_len hdw
          simpa using this
        have hlb : (allM n).length ≤ 100 := lev_len n (2 * n) (Nat.le_refl _) hn4
        have hlp : 1 ≤ (allM n).length := allM_pos n (by omega)
        have hh7 := hh2.same (e3.trans (e36.trans e7))
        refine ⟨xw, .inl ((hF6.trans e7).seq hsw), h, (xw.length : Int), rfl, hh7, by omega, by omega, fun H8 j e8 hh8 hj => ?_⟩
        have hF8 : Same (nw H3 H4) H8 := fun b o hb => by
          have hb7 := (hF6.trans e7) _ _ hb
          refine e8 _ _ hb7 fun c => ?_
          have : b = h := by simpa using c
          obtain ⟨oo, ho⟩ := hhx
          rw [this] at hb
          obtain ⟨g1, _⟩ := nw_of hb
          rw [ho] at g1
          cases g1
        have hj' : j < (allM n).length := by omega
        obtain ⟨vj, hvj, hdj⟩ := dpA_get (i := j) (d := dWd (allM n)[j]) hdw (by rw [List.getElem?_map, List.getElem?_eq_getElem hj']; rfl)
        have hmem := List.getElem_mem hj'
        generalize (allM n)[j] = uw at hdj hmem
        cases dp_strI hdj
        obtain ⟨f1, f2, f3, f4⟩ := word_facts hn1 (by omega) hmem
        refine rIxL_i (hF8.seq hsw) (at_lt hvj) ⟨h, 24, rfl, hh8, by decide, by decide, fun H9 j9 e9 hh9 hj9 => ?_⟩
        refine ⟨uw, n, j9, rfl, f1, hn1, by omega, f2, f3, f4, fun H10 e10 => .inr ⟨rfl, ?_⟩⟩
        refine ⟨h, 6, rfl, hh9.same e10, by decide, by decide, fun H11 j11 e11 hh11 hj11 => ⟨_, rfl, ?_⟩⟩
        obtain ⟨m, hm⟩ : ∃ m, m = 1 + j11 := ⟨_, rfl⟩
        have em : (1 : Int) + (j11 : Int) = (m : Int) := by omega
        rw [em]
        refine ⟨h, m, rfl, hh11, by omega, fun H12 u2 e12 hh12 hu2 => ⟨h, 120, rfl, hh12, by decide, by decide, fun H13 j13 e13 hh13 hj13 => ?_⟩⟩
        obtain ⟨q1, q2, q3, q4⟩ := word_facts (by omega) (by omega) hu2
        exact ⟨u2, m, j13, rfl, q1, by omega, by omega, q2, q3, q4, fun H14 e14 => k _⟩
end
end K12
set_option Elab.async false
set_option linter.all false
set_option maxRecDepth 100000
set_option maxHeartbeats 0
namespace K12H
open PySem PySem.W PySem.Calls PyProof.Rows He He5
/-- the getter's def of a property of Column -/
def pgA (f : PySem.Str) (K : Frag) : Addr := match recIn K (ma K (ga K "Column") f) "property" with
  | some (.ref g :: _) => g
  | _ => 0
def gD (x : PySem.Str) (i : Nat) : DefA := ⟨fun K => ga K x, x, x, L2.defArgs (K12.top i), L2.defBody (K12.top i), L2.defScope (K12.top i), [], []⟩
def mD (x q : PySem.Str) (i : Nat) : DefA := ⟨fun K => ma K (ga K "Column") x, x, q, L2.defArgs (L2.inClass (K12.top 10) i), L2.defBody (L2.inClass (K12.top 10) i), L2.defScope (L2.inClass (K12.top 10) i), [], []⟩
def pD (x q : PySem.Str) (i : Nat) : DefA := ⟨pgA x, x, q, L2.defArgs (L2.inClass (K12.top 10) i), L2.defBody (L2.inClass (K12.top 10) i), L2.defScope (L2.inClass (K12.top 10) i), [], []⟩
def fn : List DefA := [gD "is_whole" 8, gD "word_fault" 9, gD "pull_word" 12, gD "pull_trouble" 13, gD "pulled_column" 14, gD "undone" 15, gD "row_of" 16, gD "orders_of" 17, gD "fewest_pulls" 18, gD "fewest_rows" 19, gD "how_many_fewest" 20,
  gD "_law_mix" 22, gD "_law_hand" 23, gD "_law_draw" 24, gD "_law_word" 25, gD "_law_heights" 26, gD "_law_all_words" 27, gD "_law_pull" 28, gD "_law_pulls" 29, gD "_law_reached" 30, gD "_law_orders" 31, gD "_law_undone" 32, gD "_law_row" 33, gD "_law_plain" 34, gD "_law_right" 35, gD "law" 36,
  mD "__init__" "Column.__init__" 0, mD "height" "Column.height" 9, pD "heights" "Column.heights" 1, pD "runs" "Column.runs" 3, pD "creases" "Column.creases" 4, pD "ridges" "Column.ridges" 6]
def gls : List PySem.Str := ["is_whole", "word_fault", "Column", "pull_word", "pull_trouble", "pulled_column", "undone", "row_of", "orders_of", "fewest_pulls", "fewest_rows", "how_many_fewest", "_law_mix", "_law_hand", "_law_draw", "_law_word", "_law_heights", "_law_all_words", "_law_pull", "_law_pulls", "_law_reached", "_law_orders", "_law_undone", "_law_row", "_law_plain", "_law_right", "law"]
def frs : List PySem.Str := ["isinstance", "len", "str", "int", "bool", "list", "tuple", "range", "enumerate", "reversed", "sorted", "abs", "max", "all"]
def fa : List Fa := gls.map .glo ++ frs.map .free ++ [.int "MOST_SIZE" 6, .cls "Column", .noat "Column" "word", .noat "Column" "size", .mkr "Column", .meth "Column" "height"]
def prB (K : Frag) (f : PySem.Str) : Bool := eqO (findIn K (.ref (ga K "Column")) f) (some (some (.ref (ma K (ga K "Column") f)))) && (eqO (specialIn K (.ref (ma K (ga K "Column") f)) "__get__") (some (some (.builtin "property.__get__"))) &&
  (decide (takesIn K (.ref (ma K (ga K "Column") f)) = some true) && (match recIn K (ma K (ga K "Column") f) "property" with
    | some (.ref _ :: _) => true
    | _ => false)))
theorem prB_ok {K : Frag} {f : PySem.Str} (h : prB K f = true) : L2.PropOf K (ga K "Column") f (ma K (ga K "Column") f) (pgA f K) := by
  obtain ⟨h1, h⟩ := ba h
  obtain ⟨h2, h⟩ := ba h
  obtain ⟨h3, h4⟩ := ba h
  refine ⟨eqO_ok h1, eqO_ok h2, of_decide_eq_true h3, ?_⟩
  unfold pgA
  split at h4
  · rename_i g r e
    exact ⟨r, by rw [e]⟩
  · cases h4
def exB (K : Frag) : Bool := prB K "heights" && (prB K "runs" && (prB K "creases" && prB K "ridges"))
abbrev AlK : Type := He.AlD × Bool
def obsK (K : Frag) : AlK := (obsA fa fn K, exB K)
def valK : AlK := (valA fn, true)
def obsKG (n : Nat) (g : Addr → Option Obj) : AlK := obsK (frG g (asA g n))
def hookK (n : Nat) : PySem.W.Hook where
  α := AlK
  obs := fun s => obsKG n s.heap.get?
  val := fun _ => valK
  says := fun _ h => ∃ K : Frag, K.In h ∧ obsK K = valK
  of := fun _ _ e => ⟨_, frG_in, e⟩
  keeps := fun _ _ _ ⟨K, hK, c⟩ k => ⟨K, Frag.In.keeps hK k, c⟩
theorem obsKG_eq {n : Nat} {g : Addr → Option Obj} {s : Shared} (h : ∀ a, g a = s.heap.get? a) : obsKG n g = (hookK n).obs s := by
  have e : g = s.heap.get? := funext h
  rw [e] <;> rfl
abbrev R : PySem.W.OpenRow := PySem.W.OpenLaw.row PySem.Challenge.rw_slitstairs_k12_whole_fewest_pulls_are_th
abbrev qv : Program := PySem.W.view R.prog [36]
abbrev hk : PySem.W.Hook := hookK 7
def ob (s : PySem.W.SharedT) : AlK := obsKG 7 (HandSHeadRun.getT s)
theorem ob_eq (s : PySem.W.SharedT) : ob s = hk.obs s.abs := obsKG_eq (HandSHeadRun.getT_eq s)
def names : List PySem.Str := ["_wall", "CardError", "BadColumn", "BadBoundary", "BadStack", "MOST_SIZE", "is_whole", "word_fault", "Column", "pull_word", "pull_trouble", "pulled_column", "undone", "row_of", "orders_of", "fewest_pulls", "fewest_rows", "how_many_fewest", "_law_mix", "_law_hand", "_law_draw", "_law_word", "_law_heights", "_law_all_words", "_law_pull", "_law_pulls", "_law_reached", "_law_orders", "_law_undone", "_law_row", "_law_plain", "_law_right"]
theorem run (w : World) : HandSHeadRun.RunEq R qv hk ob 4000 names w := by
  intro os
  kernel_rfl
end K12H
set_option Elab.async false
set_option linter.all false
set_option maxRecDepth 100000
set_option maxHeartbeats 4000000
namespace K12
open PySem PySem.Spec PyProof.Rows L2 K12M
section
variable {P : Program} {w : World} {K : PySem.W.Frag} {mg : Str → Option Value}

theorem law_facts {h : Heap} {f : Addr} (X : K.In h) (G : h.Ns mainGlobals mg) (hfa : mg ("law" : Str) = some (.ref f)) (c0 : K12H.obsK K = K12H.valK) :
    ∃ fd : FuncData, (∀ (s : Shared) (v : Value), BindsTo s fd ⟨[v], []⟩ [("_law_script", v)]) ∧ ∀ base : Heap, K.In base → base.Ns mainGlobals mg → FnOk P w K mg base CX0 11 f fd ["_law_script"] (spLaw K) := by
  have c : He5.SaysA K12H.fa K12H.fn K := congrArg Prod.fst c0
  have cx : K12H.exB K = true := congrArg Prod.snd c0
  have x1 := He.ba cx
  have x2 := He.ba x1.2
  have x3 := He.ba x2.2
  obtain ⟨C, hC⟩ : ∃ C, C = He.ga K "Column" := ⟨_, rfl⟩
  have gis_whole := He.glo_ok X G (c.fact 0 (f := .glo "is_whole") rfl)
  have gword_fault := He.glo_ok X G (c.fact 1 (f := .glo "word_fault") rfl)
  have gColumn := He.glo_ok X G (c.fact 2 (f := .glo "Column") rfl)
  have gpull_word := He.glo_ok X G (c.fact 3 (f := .glo "pull_word") rfl)
  have gpull_trouble := He.glo_ok X G (c.fact 4 (f := .glo "pull_trouble") rfl)
  have gpulled_column := He.glo_ok X G (c.fact 5 (f := .glo "pulled_column") rfl)
  have gundone := He.glo_ok X G (c.fact 6 (f := .glo "undone") rfl)
  have grow_of := He.glo_ok X G (c.fact 7 (f := .glo "row_of") rfl)
  have gorders_of := He.glo_ok X G (c.fact 8 (f := .glo "orders_of") rfl)
  have gfewest_pulls := He.glo_ok X G (c.fact 9 (f := .glo "fewest_pulls") rfl)
  have gfewest_rows := He.glo_ok X G (c.fact 10 (f := .glo "fewest_rows") rfl)
  have ghow_many_fewest := He.glo_ok X G (c.fact 11 (f := .glo "how_many_fewest") rfl)
  have g_law_mix := He.glo_ok X G (c.fact 12 (f := .glo "_law_mix") rfl)
  have g_law_hand := He.glo_ok X G (c.fact 13 (f := .glo "_law_hand") rfl)
  have g_law_draw := He.glo_ok X G (c.fact 14 (f := .glo "_law_draw") rfl)
  have g_law_word := He.glo_ok X G (c.fact 15 (f := .glo "_law_word") rfl)
  have g_law_heights := He.glo_ok X G (c.fact 16 (f := .glo "_law_heights") rfl)
  have g_law_all_words := He.glo_ok X G (c.fact 17 (f := .glo "_law_all_words") rfl)
  have g_law_pull := He.glo_ok X G (c.fact 18 (f := .glo "_law_pull") rfl)
  have g_law_pulls := He.glo_ok X G (c.fact 19 (f := .glo "_law_pulls") rfl)
  have g_law_reached := He.glo_ok X G (c.fact 20 (f := .glo "_law_reached") rfl)
  have g_law_orders := He.glo_ok X G (c.fact 21 (f := .glo "_law_orders") rfl)
  have g_law_undone := He.glo_ok X G (c.fact 22 (f := .glo "_law_undone") rfl)
  have g_law_row := He.glo_ok X G (c.fact 23 (f := .glo "_law_row") rfl)
  have g_law_plain := He.glo_ok X G (c.fact 24 (f := .glo "_law_plain") rfl)
  have g_law_right := He.glo_ok X G (c.fact 25 (f := .glo "_law_right") rfl)
  have glaw := He.glo_ok X G (c.fact 26 (f := .glo "law") rfl)
  obtain ⟨fdis_whole, Dis_whole⟩ := c.def_ 0 (d := K12H.gD "is_whole" 8) rfl
  have Fis_whole : Fun K "is_whole" "is_whole" (top 8) (He.ga K "is_whole") fdis_whole := He5.fun_of (st := top 8) Dis_whole
  have Bis_whole : Binds K fdis_whole ["thing", "low", "high"] [] := Fis_whole.binds fun _ _ _ _ _ _ us hl => match us, hl with | [_, _, _], _ => rfl
  obtain ⟨fdword_fault, Dword_fault⟩ := c.def_ 1 (d := K12H.gD "word_fault" 9) rfl
  have Fword_fault : Fun K "word_fault" "word_fault" (top 9) (He.ga K "word_fault") fdword_fault := He5.fun_of (st := top 9) Dword_fault
  have Bword_fault : Binds K fdword_fault ["thing"] [] := Fword_fault.binds fun _ _ _ _ _ _ us hl => match us, hl with | [_], _ => rfl
  obtain ⟨fdpull_word, Dpull_word⟩ := c.def_ 2 (d := K12H.gD "pull_word" 12) rfl
  have Fpull_word : Fun K "pull_word" "pull_word" (top 12) (He.ga K "pull_word") fdpull_word := He5.fun_of (st := top 12) Dpull_word
  have Bpull_word : Binds K fdpull_word ["pull"] [] := Fpull_word.binds fun _ _ _ _ _ _ us hl => match us, hl with | [_], _ => rfl
  obtain ⟨fdpull_trouble, Dpull_trouble⟩ := c.def_ 3 (d := K12H.gD "pull_trouble" 13) rfl
  have Fpull_trouble : Fun K "pull_trouble" "pull_trouble" (top 13) (He.ga K "pull_trouble") fdpull_trouble := He5.fun_of (st := top 13) Dpull_trouble
  have Bpull_trouble : Binds K fdpull_trouble ["column", "pull"] [] := Fpull_trouble.binds fun _ _ _ _ _ _ us hl => match us, hl with | [_, _], _ => rfl
  obtain ⟨fdpulled_column, Dpulled_column⟩ := c.def_ 4 (d := K12H.gD "pulled_column" 14) rfl
  have Fpulled_column : Fun K "pulled_column" "pulled_column" (top 14) (He.ga K "pulled_column") fdpulled_column := He5.fun_of (st := top 14) Dpulled_column
  obtain ⟨fdundone, Dundone⟩ := c.def_ 5 (d := K12H.gD "undone" 15) rfl
  have Fundone : Fun K "undone" "undone" (top 15) (He.ga K "undone") fdundone := He5.fun_of (st := top 15) Dundone
  have Bundone : Binds K fdundone ["word", "ridge"] [] := Fundone.binds fun _ _ _ _ _ _ us hl => match us, hl with | [_, _], _ => rfl
  obtain ⟨fdrow_of, Drow_of⟩ := c.def_ 6 (d := K12H.gD "row_of" 16) rfl
  have Frow_of : Fun K "row_of" "row_of" (top 16) (He.ga K "row_of") fdrow_of := He5.fun_of (st := top 16) Drow_of
  have Brow_of : Binds K fdrow_of ["column", "order"] [] := Frow_of.binds fun _ _ _ _ _ _ us hl => match us, hl with | [_, _], _ => rfl
  obtain ⟨fdorders_of, Dorders_of⟩ := c.def_ 7 (d := K12H.gD "orders_of" 17) rfl
  have Forders_of : Fun K "orders_of" "orders_of" (top 17) (He.ga K "orders_of") fdorders_of := He5.fun_of (st := top 17) Dorders_of
  have Borders_of : Binds K fdorders_of ["things"] [] := Forders_of.binds fun _ _ _ _ _ _ us hl => match us, hl with | [_], _ => rfl
  obtain ⟨fdfewest_pulls, Dfewest_pulls⟩ := c.def_ 8 (d := K12H.gD "fewest_pulls" 18) rfl
  have Ffewest_pulls : Fun K "fewest_pulls" "fewest_pulls" (top 18) (He.ga K "fewest_pulls") fdfewest_pulls := He5.fun_of (st := top 18) Dfewest_pulls
  have Bfewest_pulls : Binds K fdfewest_pulls ["column"] [] := Ffewest_pulls.binds fun _ _ _ _ _ _ us hl => match us, hl with | [_], _ => rfl
  obtain ⟨fdfewest_rows, Dfewest_rows⟩ := c.def_ 9 (d := K12H.gD "fewest_rows" 19) rfl
  have Ffewest_rows : Fun K "fewest_rows" "fewest_rows" (top 19) (He.ga K "fewest_rows") fdfewest_rows := He5.fun_of (st := top 19) Dfewest_rows
  have Bfewest_rows : Binds K fdfewest_rows ["column"] [] := Ffewest_rows.binds fun _ _ _ _ _ _ us hl => match us, hl with | [_], _ => rfl
  obtain ⟨fdhow_many_fewest, Dhow_many_fewest⟩ := c.def_ 10 (d := K12H.gD "how_many_fewest" 20) rfl
  have Fhow_many_fewest : Fun K "how_many_fewest" "how_many_fewest" (top 20) (He.ga K "how_many_fewest") fdhow_many_fewest := He5.fun_of (st := top 20) Dhow_many_fewest
  have Bhow_many_fewest : Binds K fdhow_many_fewest ["column"] [] := Fhow_many_fewest.binds fun _ _ _ _ _ _ us hl => match us, hl with | [_], _ => rfl
  obtain ⟨fd_law_mix, D_law_mix⟩ := c.def_ 11 (d := K12H.gD "_law_mix" 22) rfl
  have F_law_mix : Fun K "_law_mix" "_law_mix" (top 22) (He.ga K "_law_mix") fd_law_mix := He5.fun_of (st := top 22) D_law_mix
  have B_law_mix : Binds K fd_law_mix ["_law_number", "_law_turn"] [] := F_law_mix.binds fun _ _ _ _ _ _ us hl => match us, hl with | [_, _], _ => rfl
  obtain ⟨fd_law_hand, D_law_hand⟩ := c.def_ 12 (d := K12H.gD "_law_hand" 23) rfl
  have F_law_hand : Fun K "_law_hand" "_law_hand" (top 23) (He.ga K "_law_hand") fd_law_hand := He5.fun_of (st := top 23) D_law_hand
  have B_law_hand : Binds K fd_law_hand ["_law_script"] [] := F_law_hand.binds fun _ _ _ _ _ _ us hl => match us, hl with | [_], _ => rfl
  obtain ⟨fd_law_draw, D_law_draw⟩ := c.def_ 13 (d := K12H.gD "_law_draw" 24) rfl
  have F_law_draw : Fun K "_law_draw" "_law_draw" (top 24) (He.ga K "_law_draw") fd_law_draw := He5.fun_of (st := top 24) D_law_draw
  have B_law_draw : Binds K fd_law_draw ["_law_hand_here", "_law_many"] [] := F_law_draw.binds fun _ _ _ _ _ _ us hl => match us, hl with | [_, _], _ => rfl
  obtain ⟨fd_law_word, D_law_word⟩ := c.def_ 14 (d := K12H.gD "_law_word" 25) rfl
  have F_law_word : Fun K "_law_word" "_law_word" (top 25) (He.ga K "_law_word") fd_law_word := He5.fun_of (st := top 25) D_law_word
  have B_law_word : Binds K fd_law_word ["_law_hand_here", "_law_size"] [] := F_law_word.binds fun _ _ _ _ _ _ us hl => match us, hl with | [_, _], _ => rfl
  obtain ⟨fd_law_heights, D_law_heights⟩ := c.def_ 15 (d := K12H.gD "_law_heights" 26) rfl
  have F_law_heights : Fun K "_law_heights" "_law_heights" (top 26) (He.ga K "_law_heights") fd_law_heights := He5.fun_of (st := top 26) D_law_heights
  have B_law_heights : Binds K fd_law_heights ["_law_word_here"] [] := F_law_heights.binds fun _ _ _ _ _ _ us hl => match us, hl with | [_], _ => rfl
  obtain ⟨fd_law_all_words, D_law_all_words⟩ := c.def_ 16 (d := K12H.gD "_law_all_words" 27) rfl
  have F_law_all_words : Fun K "_law_all_words" "_law_all_words" (top 27) (He.ga K "_law_all_words") fd_law_all_words := He5.fun_of (st := top 27) D_law_all_words
  have B_law_all_words : Binds K fd_law_all_words ["_law_size"] [] := F_law_all_words.binds fun _ _ _ _ _ _ us hl => match us, hl with | [_], _ => rfl
  obtain ⟨fd_law_pull, D_law_pull⟩ := c.def_ 17 (d := K12H.gD "_law_pull" 28) rfl
  have F_law_pull : Fun K "_law_pull" "_law_pull" (top 28) (He.ga K "_law_pull") fd_law_pull := He5.fun_of (st := top 28) D_law_pull
  have B_law_pull : Binds K fd_law_pull ["_law_word_here", "_law_pull_here"] [] := F_law_pull.binds fun _ _ _ _ _ _ us hl => match us, hl with | [_, _], _ => rfl
  obtain ⟨fd_law_pulls, D_law_pulls⟩ := c.def_ 18 (d := K12H.gD "_law_pulls" 29) rfl
  have F_law_pulls : Fun K "_law_pulls" "_law_pulls" (top 29) (He.ga K "_law_pulls") fd_law_pulls := He5.fun_of (st := top 29) D_law_pulls
  have B_law_pulls : Binds K fd_law_pulls ["_law_word_here"] [] := F_law_pulls.binds fun _ _ _ _ _ _ us hl => match us, hl with | [_], _ => rfl
  obtain ⟨fd_law_reached, D_law_reached⟩ := c.def_ 19 (d := K12H.gD "_law_reached" 30) rfl
  have F_law_reached : Fun K "_law_reached" "_law_reached" (top 30) (He.ga K "_law_reached") fd_law_reached := He5.fun_of (st := top 30) D_law_reached
  have B_law_reached : Binds K fd_law_reached ["_law_size"] [] := F_law_reached.binds fun _ _ _ _ _ _ us hl => match us, hl with | [_], _ => rfl
  obtain ⟨fd_law_orders, D_law_orders⟩ := c.def_ 20 (d := K12H.gD "_law_orders" 31) rfl
  have F_law_orders : Fun K "_law_orders" "_law_orders" (top 31) (He.ga K "_law_orders") fd_law_orders := He5.fun_of (st := top 31) D_law_orders
  have B_law_orders : Binds K fd_law_orders ["_law_many"] [] := F_law_orders.binds fun _ _ _ _ _ _ us hl => match us, hl with | [_], _ => rfl
  obtain ⟨fd_law_undone, D_law_undone⟩ := c.def_ 21 (d := K12H.gD "_law_undone" 32) rfl
  have F_law_undone : Fun K "_law_undone" "_law_undone" (top 32) (He.ga K "_law_undone") fd_law_undone := He5.fun_of (st := top 32) D_law_undone
  have B_law_undone : Binds K fd_law_undone ["_law_word_here", "_law_at"] [] := F_law_undone.binds fun _ _ _ _ _ _ us hl => match us, hl with | [_, _], _ => rfl
  obtain ⟨fd_law_row, D_law_row⟩ := c.def_ 22 (d := K12H.gD "_law_row" 33) rfl
  have F_law_row : Fun K "_law_row" "_law_row" (top 33) (He.ga K "_law_row") fd_law_row := He5.fun_of (st := top 33) D_law_row
  have B_law_row : Binds K fd_law_row ["_law_word_here", "_law_order"] [] := F_law_row.binds fun _ _ _ _ _ _ us hl => match us, hl with | [_, _], _ => rfl
  obtain ⟨fd_law_plain, D_law_plain⟩ := c.def_ 23 (d := K12H.gD "_law_plain" 34) rfl
  have F_law_plain : Fun K "_law_plain" "_law_plain" (top 34) (He.ga K "_law_plain") fd_law_plain := He5.fun_of (st := top 34) D_law_plain
  have B_law_plain : Binds K fd_law_plain ["_law_row_here"] [] := F_law_plain.binds fun _ _ _ _ _ _ us hl => match us, hl with | [_], _ => rfl
  obtain ⟨fd_law_right, D_law_right⟩ := c.def_ 24 (d := K12H.gD "_law_right" 35) rfl
  have F_law_right : Fun K "_law_right" "_law_right" (top 35) (He.ga K "_law_right") fd_law_right := He5.fun_of (st := top 35) D_law_right
  have B_law_right : Binds K fd_law_right ["_law_word_here", "_law_size", "_law_some"] [] := F_law_right.binds fun _ _ _ _ _ _ us hl => match us, hl with | [_, _, _], _ => rfl
  obtain ⟨fdlaw, Dlaw⟩ := c.def_ 25 (d := K12H.gD "law" 36) rfl
  have Flaw : Fun K "law" "law" (top 36) (He.ga K "law") fdlaw := He5.fun_of (st := top 36) Dlaw
  have Blaw : Binds K fdlaw ["_law_script"] [] := Flaw.binds fun _ _ _ _ _ _ us hl => match us, hl with | [_], _ => rfl
  obtain ⟨fdM__init__, DM__init__⟩ := c.def_ 26 (d := K12H.mD "__init__" "Column.__init__" 0) rfl
  have FM__init__ : Fun K "__init__" "Column.__init__" (inClass (top 10) 0) (He.ma K (He.ga K "Column") "__init__") fdM__init__ := He5.fun_of (st := inClass (top 10) 0) DM__init__
  have BM__init__ : Binds K fdM__init__ ["self", "word"] [] := FM__init__.binds fun _ _ _ _ _ _ us hl => match us, hl with | [_, _], _ => rfl
  obtain ⟨fdMheight, DMheight⟩ := c.def_ 27 (d := K12H.mD "height" "Column.height" 9) rfl
  have FMheight : Fun K "height" "Column.height" (inClass (top 10) 9) (He.ma K (He.ga K "Column") "height") fdMheight := He5.fun_of (st := inClass (top 10) 9) DMheight
  have BMheight : Binds K fdMheight ["self", "boundary"] [] := FMheight.binds fun _ _ _ _ _ _ us hl => match us, hl with | [_, _], _ => rfl
  obtain ⟨fdMheights, DMheights⟩ := c.def_ 28 (d := K12H.pD "heights" "Column.heights" 1) rfl
  have FMheights : Fun K "heights" "Column.heights" (inClass (top 10) 1) (K12H.pgA "heights" K) fdMheights := He5.fun_of (st := inClass (top 10) 1) DMheights
  have BMheights : Binds K fdMheights ["self"] [] := FMheights.binds fun _ _ _ _ _ _ us hl => match us, hl with | [_], _ => rfl
  obtain ⟨fdMruns, DMruns⟩ := c.def_ 29 (d := K12H.pD "runs" "Column.runs" 3) rfl
  have FMruns : Fun K "runs" "Column.runs" (inClass (top 10) 3) (K12H.pgA "runs" K) fdMruns := He5.fun_of (st := inClass (top 10) 3) DMruns
  have BMruns : Binds K fdMruns ["self"] [] := FMruns.binds fun _ _ _ _ _ _ us hl => match us, hl with | [_], _ => rfl
  obtain ⟨fdMcreases, DMcreases⟩ := c.def_ 30 (d := K12H.pD "creases" "Column.creases" 4) rfl
  have FMcreases : Fun K "creases" "Column.creases" (inClass (top 10) 4) (K12H.pgA "creases" K) fdMcreases := He5.fun_of (st := inClass (top 10) 4) DMcreases
  have BMcreases : Binds K fdMcreases ["self"] [] := FMcreases.binds fun _ _ _ _ _ _ us hl => match us, hl with | [_], _ => rfl
  obtain ⟨fdMridges, DMridges⟩ := c.def_ 31 (d := K12H.pD "ridges" "Column.ridges" 6) rfl
  have FMridges : Fun K "ridges" "Column.ridges" (inClass (top 10) 6) (K12H.pgA "ridges" K) fdMridges := He5.fun_of (st := inClass (top 10) 6) DMridges
  have BMridges : Binds K fdMridges ["self"] [] := FMridges.binds fun _ _ _ _ _ _ us hl => match us, hl with | [_], _ => rfl
  have T : Txt K mg (He.ga K "Column") := {
    isinstance_ := He.free_ok X G (c.fact 27 (f := .free "isinstance") rfl)
    len_ := He.free_ok X G (c.fact 28 (f := .free "len") rfl)
    str_ := He.free_ok X G (c.fact 29 (f := .free "str") rfl)
    int_ := He.free_ok X G (c.fact 30 (f := .free "int") rfl)
    bool_ := He.free_ok X G (c.fact 31 (f := .free "bool") rfl)
    list_ := He.free_ok X G (c.fact 32 (f := .free "list") rfl)
    tuple_ := He.free_ok X G (c.fact 33 (f := .free "tuple") rfl)
    range_ := He.free_ok X G (c.fact 34 (f := .free "range") rfl)
    enumerate_ := He.free_ok X G (c.fact 35 (f := .free "enumerate") rfl)
    reversed_ := He.free_ok X G (c.fact 36 (f := .free "reversed") rfl)
    sorted_ := He.free_ok X G (c.fact 37 (f := .free "sorted") rfl)
    abs_ := He.free_ok X G (c.fact 38 (f := .free "abs") rfl)
    max_ := He.free_ok X G (c.fact 39 (f := .free "max") rfl)
    all_ := He.free_ok X G (c.fact 40 (f := .free "all") rfl)
    mS := He.int_ok X G (c.fact 41 (f := .int "MOST_SIZE" 6) rfl)
    cl := He.cls_ok (c.fact 42 (f := .cls "Column") rfl)
    nW := He.noat_ok (c.fact 43 (f := .noat "Column" "word") rfl)
    nS := He.noat_ok (c.fact 44 (f := .noat "Column" "size") rfl)
    mgC := gColumn }
  have mI := He.mkr_ok (c.fact 45 (f := .mkr "Column") rfl)
  have mH := He.meth_ok (c.fact 46 (f := .meth "Column" "height") rfl)
  have e := hfa.symm.trans glaw
  injection e with e
  injection e with e
  subst e
  refine ⟨fdlaw, fun s v => FunD.bindsA (ps := ["_law_script"]) Dlaw (fun _ _ _ _ _ _ us hl => match us, hl with | [_], _ => rfl) s [v] rfl, fun base _ _ => ?_⟩
  have cwf := cl_word_fault (P := P) (w := w) (base := base) T ⟨_, _, Fword_fault, gword_fault, Bword_fault⟩
  have oI := ok_init T cwf FM__init__
  have chs := cl_heights (P := P) (w := w) (base := base) T ⟨_, _, _, K12H.prB_ok x1.1, FMheights, BMheights⟩
  have crn := cl_runs (P := P) (w := w) (base := base) T ⟨_, _, _, K12H.prB_ok x2.1, FMruns, BMruns⟩
  have ccr := cl_creases (P := P) (w := w) (base := base) T ⟨_, _, _, K12H.prB_ok x3.1, FMcreases, BMcreases⟩
  have crd := cl_ridges (P := P) (w := w) (base := base) T ccr ⟨_, _, _, K12H.prB_ok x3.2, FMridges, BMridges⟩
  have cis := cl_is_whole (P := P) (w := w) (base := base) T ⟨_, _, Fis_whole, gis_whole, Bis_whole⟩
  have oH := ok_height T chs cis FMheight
  have cpw := cl_pull_word (P := P) (w := w) (base := base) T ⟨_, _, Fpull_word, gpull_word, Bpull_word⟩
  have cpt := cl_pull_trouble T cpw ccr crn mH oH BMheight ⟨_, _, Fpull_trouble, gpull_trouble, Bpull_trouble⟩
  have cpc := cl_pulled T cpt mI oI BM__init__ Fpulled_column gpulled_column
  have cun := cl_undone T crn mI oI BM__init__ ⟨_, _, Fundone, gundone, Bundone⟩
  have crow := cl_row T cun ⟨_, _, Frow_of, grow_of, Brow_of⟩
  have cor := cl_orders (P := P) (w := w) (base := base) T ⟨_, _, Forders_of, gorders_of, Borders_of⟩
  have cfe := cl_few T crow crd ⟨_, _, Ffewest_pulls, gfewest_pulls, Bfewest_pulls⟩
  have cma := cl_many T crd ⟨_, _, Fhow_many_fewest, ghow_many_fewest, Bhow_many_fewest⟩
  have gro := gfn_rows T crow cor crd Ffewest_rows
  have cmx := cl_mix (P := P) (w := w) (base := base) T ⟨_, _, F_law_mix, g_law_mix, B_law_mix⟩
  have cha := cl_hand (P := P) (w := w) (base := base) T ⟨_, _, F_law_hand, g_law_hand, B_law_hand⟩
  have cdr := cl_draw T cmx ⟨_, _, F_law_draw, g_law_draw, B_law_draw⟩
  have cwo := cl_word T cdr ⟨_, _, F_law_word, g_law_word, B_law_word⟩
  have clh := cl_lheights (P := P) (w := w) (base := base) T ⟨_, _, F_law_heights, g_law_heights, B_law_heights⟩
  have caw := cl_allwords (P := P) (w := w) (base := base) T ⟨_, _, F_law_all_words, g_law_all_words, B_law_all_words⟩
  have clp := cl_lpull T clh ⟨_, _, F_law_pull, g_law_pull, B_law_pull⟩
  have cls := cl_lpulls T clp ⟨_, _, F_law_pulls, g_law_pulls, B_law_pulls⟩
  have cre := cl_reached T cls ⟨_, _, F_law_reached, g_law_reached, B_law_reached⟩
  have clo := cl_lorders (P := P) (w := w) (base := base) T ⟨_, _, F_law_orders, g_law_orders, B_law_orders⟩
  have clu := cl_lundone (P := P) (w := w) (base := base) T ⟨_, _, F_law_undone, g_law_undone, B_law_undone⟩
  have clr := cl_lrow T clu ⟨_, _, F_law_row, g_law_row, B_law_row⟩
  have cpl := cl_plain (P := P) (w := w) (base := base) T ⟨_, _, F_law_plain, g_law_plain, B_law_plain⟩
  have cri := cl_right T clo cpl clr cma cfe clp cpc mI oI BM__init__ gro gfewest_rows Ffewest_rows.kp Bfewest_rows ⟨_, _, F_law_right, g_law_right, B_law_right⟩
  exact ok_law T cha cdr cre caw cri cwo crd mI oI BM__init__ gro gfewest_rows Ffewest_rows.kp Bfewest_rows Flaw
end
end K12
open PySem PySem.W PySem.Calls PyProof.Rows
theorem PySem.Challenge.cw_slitstairs_k12_whole_fewest_pulls_are_th_holds : PySem.Challenge.rw_slitstairs_k12_whole_fewest_pulls_are_th.Holds := by
  w_on; o_law
  refine HandSHeadRun.head_any (r := OpenLaw.row PySem.Challenge.rw_slitstairs_k12_whole_fewest_pulls_are_th) (q := K12H.qv) (H := K12H.hk) (ob := K12H.ob) (M := 4000) (loose := K12H.names) (d := HandSHeadRun.topDef (OpenLaw.row PySem.Challenge.rw_slitstairs_k12_whole_fewest_pulls_are_th).prog 36) (kwd := []) K12H.ob_eq
    (by kernel_rfl) (fun s => by kernel_rfl) K12H.run (by kernel_rfl) (by kernel_rfl) (by kernel_rfl) (by rfl) (by first | assumption | decide +kernel) (by decide +kernel) ⟨rfl, rfl, rfl, rfl, rfl, by decide +kernel⟩ ?hw ?hc
  case hw => w_witness2
  case hc =>
    refine LamX.walk_ofTsE (l := PySem.Challenge.rw_slitstairs_k12_whole_fewest_pulls_are_th) (n := 63) (k := 11) (x := "_law_script") (CX := fun _ => L2.CX0) rfl (by decide) (by kernel_rfl) ⟨rfl, by decide, by decide⟩ ?F (fun _ _ _ _ _ z => z)
    intro w mg fa h Y G hmg0
    obtain ⟨K, KX, c⟩ := Y
    have hmg : mg ("law" : PySem.Str) = some (.ref fa) := by
      have e : (HandSHeadRun.topDef (OpenLaw.row PySem.Challenge.rw_slitstairs_k12_whole_fewest_pulls_are_th).prog 36).name = ("law" : PySem.Str) := by kernel_rfl
      rw [← e]
      exact hmg0
    obtain ⟨fd, hb, hF⟩ := K12.law_facts (P := (PySem.Challenge.rw_slitstairs_k12_whole_fewest_pulls_are_th).prog) (w := w) KX G hmg c
    exact ⟨K, KX, fd, [], K12.spLaw K, fun p hp => by simp at hp, fun p hp => by simp at hp, fun p hp => by simp at hp, hb, fun H a ns hl _ _ hS => ⟨a, ns, rfl, hS, hl, fun _ => rfl⟩, fun base h1 h2 _ => hF base h1 h2⟩
