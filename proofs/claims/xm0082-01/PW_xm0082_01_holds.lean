import PyProof.Rows.All
import Wide.All
import OpenK.AllK
import Wide.FinOn
import Lean
import PySem.Challenge.RW_xm0082_01
open PySem PySem.W PySem.Calls PyProof.Rows
set_option Elab.async false
set_option maxRecDepth 100000
set_option maxHeartbeats 8000000
namespace Mine
/-- the names of the text that the proof leans on: all but the lines that name a file -/
noncomputable def vw : Program := view PySem.Challenge.pw_xm0082_01 [1, 3, 4, 5, 6, 8, 9, 10, 11, 12, 13, 14, 15, 17, 19, 20, 21, 22, 24, 26, 27, 28, 29, 31, 32, 33, 35, 36, 37, 38]
abbrev rowM : OpenRow := OpenLaw.row PySem.Challenge.rw_xm0082_01
/-- the pair (0, 1) of the top -/
def r0obj : Obj := { cls := .type "tuple", data := .seq #[.int 0 394, .int 1 395] }
def seenR0 (s : Shared) : Option Obj := match s.heap.nsMap mainGlobals (Str.ofString "R0") with
  | some (.ref a) => s.heap.get? a
  | _ => none
def R0At (h : Heap) : Prop := ∃ a, h.nsMap mainGlobals (Str.ofString "R0") = some (.ref a) ∧ h.get? a = some r0obj
theorem r0_of (s : Shared) (e : seenR0 s = some r0obj) : R0At s.heap := by
  unfold seenR0 at e
  split at e
  · rename_i a h; exact ⟨a, h, e⟩
  · cases e
theorem nsMap_keeps {h h' : Heap} {a : Addr} {x : Str} {v : Value} (hk : ∀ b o, h.get? b = some o → h'.get? b = some o) (e : h.nsMap a x = some v) : h'.nsMap a x = some v := by
  unfold Heap.nsMap at e ⊢
  cases q : h.get? a with
  | none => rw [q] at e; cases e
  | some o => rw [q] at e; rw [hk _ _ q]; exact e
theorem R0At.keeps {h h' : Heap} (x : R0At h) (hk : ∀ b o, h.get? b = some o → h'.get? b = some o) : R0At h' := let ⟨a, h1, h2⟩ := x; ⟨a, nsMap_keeps hk h1, hk _ _ h2⟩
theorem nsMap_of {h : Heap} {a : Addr} {m : Str → Option Value} (hn : h.Ns a m) (x : Str) : h.nsMap a x = m x := by
  obtain ⟨o, es, ep, ho, hd, _, hf⟩ := hn
  unfold Heap.nsMap
  rw [ho]
  show (match o.data with | .dict es _ => nsFind es x | _ => none) = m x
  rw [hd]
  exact hf x
noncomputable def recAt (i : Nat) : DefRec := match (PySem.Challenge.pw_xm0082_01.main.body.drop i).head? with
  | some (Stmt.FunctionDef (name := n) (args := a) (body := b) (scope := sc) (pos := p) ..) => ⟨n, a, b, sc, p⟩
  | _ => ⟨Str.ofString "", { posonlyargs := [], args := [], vararg := none, kwonlyargs := [], kw_defaults := [], kwarg := none, defaults := [] }, [], { kind := .function, names := [], isGenerator := false, isCoroutine := false, more := [] }, ⟨0, 0, 0, 0⟩⟩
noncomputable abbrev lawRec : DefRec := recAt 38
noncomputable abbrev seesX (s : Shared) : Bool := xlAt vw [] s && recOk (RowW.records (OpenRow.toRowW rowM)) s
theorem top_end (w : World) (os : OsState) : (topFrom treeTable PySem.Challenge.pw_xm0082_01 w 2448 ⟨boot_heap w.params, Array.mk [], boot_drawn, boot_toks, os⟩).map (fun s => (openSeen vw [] (importedModules PySem.Challenge.pw_xm0082_01.main.body) seesX true s, seenR0 s)) = some (openGood vw [], some r0obj) := by
  unfold topFrom
  first | rw [PySem.W.Fast.te14082659384304107361, PySem.W.Fast.te14364793385576792824, PySem.W.Fast.te4187177175401517315] | skip
  kernel_rfl
theorem left0 : LeftO PySem.Challenge.pw_xm0082_01 vw [] seesX seenR0 (fun _ => some r0obj) 2448 := fun w => by
  obtain ⟨⟨h, gs, d, k, os⟩, e, e'⟩ := Option.map_eq_some_iff.mp (boot_open (p := PySem.Challenge.pw_xm0082_01) (N := 2448) (by kernel_rfl) (by decide) (fun s => by kernel_rfl) w)
  obtain ⟨rfl, rfl, rfl, rfl⟩ : h = boot_heap w.params ∧ gs = Array.mk [] ∧ d = boot_drawn ∧ k = boot_toks := by simpa only [Option.some.injEq, Prod.mk.injEq] using e'
  unfold openEnds
  rw [e, Option.bind_some]
  exact top_end w os
theorem law_def : defOf vw rowM.name = some (lawRec, []) := by kernel_rfl
theorem law_ok : (chainsOk vw && opensWell rowM.prog && (frees rowM.toRowW && rowM.within.isEmpty)) = true := by kernel_rfl
theorem law_some : rowM.toRowW.promised := by w_witness2
/-- the head: what is left is one call of law -/
theorem head (walk : WalkO vw [] (XL vw []) (fun _ h => R0At h) rowM.toRowW lawRec [] fun f vs => PySem.call f vs) : PySem.Challenge.rw_xm0082_01.Holds := by
  w_on
  o_law
  exact holds_open (q := vw) (loose := []) (Xt := seesX) (XP := XL vw []) (Yf := seenR0) (Ya := fun _ => some r0obj) (YP := fun _ h => R0At h) (N := 2448) left0 (fun _ s e => r0_of s e) (fun _ _ _ x hk => x.keeps hk)
    (fun s e => xl_of s (Bool.and_eq_true_iff.mp e).1) XL.keeps law_def (by kernel_rfl) (by kernel_rfl) (fun s e => recFacts_of (Bool.and_eq_true_iff.mp e).2) (by kernel_rfl) (by assumption) law_ok ⟨rfl, rfl, rfl, rfl, rfl, by decide +kernel⟩ law_some walk
end Mine
namespace Mine
theorem recs_eq : recsOf vw = [1, 3, 4, 5, 6, 8, 9, 10, 11, 12, 13, 14, 15, 17, 19, 20, 21, 22, 27, 28, 29, 31, 32, 33, 35, 36, 37, 38].map recAt := by kernel_rfl
theorem rec_in {i : Nat} (h : [1, 3, 4, 5, 6, 8, 9, 10, 11, 12, 13, 14, 15, 17, 19, 20, 21, 22, 27, 28, 29, 31, 32, 33, 35, 36, 37, 38].contains i = true) : recAt i ∈ recsOf vw := by
  rw [recs_eq]
  exact List.mem_map.mpr ⟨i, List.contains_iff_mem.mp h, rfl⟩
def biNames : List Str := ["range", "len", "list", "max", "abs", "sum", "enumerate", "reversed", "int"].map Str.ofString
theorem bi_free : (biNames.all fun x => !startupNames.contains x && !(looseW vw []).contains x && !((recsOf vw).map (·.name)).contains x && !((litsOf vw).map (·.1)).contains x && !((clssOf vw (looseW vw [])).map (·.name)).contains x) = true := by kernel_rfl
theorem bi_none {mean : ExcName → Option Value} {mg mb : Str → Option Value} {h : Heap} (T : Top vw (looseW vw []) mean mg mb h) {x : Str} (hx : biNames.contains x = true) : mg x = none := by
  have := List.all_eq_true.mp bi_free x (List.contains_iff_mem.mp hx)
  simp only [Bool.and_eq_true, Bool.not_eq_true', List.contains_eq_mem, decide_eq_false_iff_not] at this
  obtain ⟨⟨⟨⟨h1, h2⟩, h3⟩, h4⟩, h5⟩ := this
  exact T.free x h1 h2 h3 h4 h5
end Mine
namespace Mine
theorem take_snoc {α : Type} {l : List α} {i : Nat} {x : α} (h : l[i]? = some x) : l.take (i + 1) = l.take i ++ [x] := by
  obtain ⟨hi, e⟩ := List.getElem?_eq_some_iff.mp h
  rw [List.take_succ_eq_append_getElem hi, e]
theorem gcd_start (a b : Int) : 0 ≤ (if a < 0 then -a else a) ∧ 0 ≤ (if b < 0 then -b else b) ∧ Int.gcd (if a < 0 then -a else a) (if b < 0 then -b else b) = Int.gcd a b := by
  refine ⟨by split <;> omega, by split <;> omega, ?_⟩
  split <;> split <;> simp
theorem gcd_step {x y : Int} {a b : Int} (h1 : 0 ≤ x) (h2 : 0 ≤ y) (h3 : Int.gcd x y = Int.gcd a b) (hy : y ≠ 0) : 0 ≤ y ∧ 0 ≤ Int.fmod x y ∧ Int.gcd y (Int.fmod x y) = Int.gcd a b := by
  rw [Int.fmod_eq_emod_of_nonneg x h2]
  refine ⟨h2, Int.emod_nonneg x hy, ?_⟩
  rw [← h3]
  obtain ⟨n, rfl⟩ := Int.eq_ofNat_of_zero_le h1
  obtain ⟨k, rfl⟩ := Int.eq_ofNat_of_zero_le h2
  show Nat.gcd k (n % k) = Nat.gcd n k
  rw [Nat.gcd_comm n k, Nat.gcd_rec k n, Nat.gcd_comm]
theorem gcd_less {x y : Int} (h2 : 0 ≤ y) (hy : y ≠ 0) : (Int.fmod x y).toNat < y.toNat := by
  rw [Int.fmod_eq_emod_of_nonneg x h2]
  have := Int.emod_lt_of_pos x (show 0 < y by omega)
  have := Int.emod_nonneg x hy
  omega
theorem gcd_end {x y : Int} {a b : Int} (h1 : 0 ≤ x) (h3 : Int.gcd x y = Int.gcd a b) (hy : y = 0) : x = ((Int.gcd a b : Nat) : Int) := by
  subst hy
  rw [← h3, Int.gcd_zero_right]
  omega
theorem map_getD (f : Int → Int) (l : List Int) : (List.range l.length).map (fun i => f (l.getD i 0)) = l.map f := by
  apply List.ext_getElem
  · simp
  · intro i h1 h2
    simp only [List.getElem_map, List.getElem_range, List.getD_eq_getElem?_getD]
    rw [List.getElem?_eq_getElem (by simpa using h2)]; rfl
/-- without the noughts at the end -/
def zt : List Int → List Int
  | [] => []
  | a :: r => if a = 0 ∧ zt r = [] then [] else a :: zt r
theorem zt_len : ∀ ns : List Int, (zt ns).length ≤ ns.length
  | [] => Nat.le_refl _
  | a :: r => by
    have := zt_len r
    unfold zt
    split
    · simp
    · simp only [List.length_cons]; omega
theorem zt_nil_of : ∀ (ns : List Int), (∀ j, j < ns.length → ns.getD j 0 = 0) → zt ns = []
  | [], _ => rfl
  | a :: r, h => by
    have h1 : zt r = [] := zt_nil_of r fun j hj => by
      have := h (j + 1) (by simp only [List.length_cons]; omega)
      simpa using this
    have h2 : a = 0 := by simpa using h 0 (by simp)
    unfold zt
    rw [if_pos ⟨h2, h1⟩]
theorem zt_of : ∀ (ns : List Int) (k : Nat), k ≤ ns.length → (∀ j, k ≤ j → j < ns.length → ns.getD j 0 = 0) → (k = 0 ∨ ns.getD (k - 1) 0 ≠ 0) → ns.take k = zt ns
  | [], k, _, _, _ => by simp [zt]
  | a :: r, 0, _, h, _ => by rw [zt_nil_of _ fun j hj => h j (Nat.zero_le _) hj]; rfl
  | a :: r, k + 1, hk, h0, h1 => by
    simp only [List.length_cons] at hk
    have h1' : (a :: r).getD k 0 ≠ 0 := by
      rcases h1 with h | h
      · omega
      · simpa using h
    have hz : ∀ j, k ≤ j → j < r.length → r.getD j 0 = 0 := fun j hj hl => by
      have := h0 (j + 1) (by omega) (by simp only [List.length_cons]; omega)
      simpa using this
    cases k with
    | zero =>
      have e : zt r = [] := zt_nil_of r fun j hj => hz j (Nat.zero_le _) hj
      have ha : a ≠ 0 := by simpa using h1'
      unfold zt
      rw [if_neg fun q => ha q.1, e]
      rfl
    | succ k =>
      have h2 : r.getD k 0 ≠ 0 := by simpa using h1'
      have ih := zt_of r (k + 1) (by omega) hz (.inr (by simpa using h2))
      have hne : zt r ≠ [] := fun q => by
        rw [q] at ih
        have h9 := congrArg List.length ih
        rw [List.length_take, List.length_nil] at h9
        omega
      unfold zt
      rw [if_neg fun q => hne q.2, ← ih]
      rfl
theorem ztrim_end {ns : List Int} {k : Int} (h1 : k ≤ (ns.length : Int)) (h2 : min (ns.length : Int) 0 ≤ k)
    (h3 : ∀ (j : Int), k < j → j ≤ (ns.length : Int) → (if 0 < j then if (ns.getD (j - 1).toNat 0 == 0) = true then true else false else false) = true)
    (h4 : (if 0 < k then if (ns.getD (k - 1).toNat 0 == 0) = true then true else false else false) = false) : ns.take k.toNat = zt ns := by
  have hk : 0 ≤ k := by omega
  obtain ⟨n, rfl⟩ := Int.eq_ofNat_of_zero_le hk
  rw [Int.toNat_natCast]
  refine zt_of ns n (by omega) (fun j h5 h6 => ?_) ?_
  · have := h3 ((j : Int) + 1) (by omega) (by omega)
    rw [if_pos (by omega)] at this
    have e : ((j : Int) + 1 - 1).toNat = j := by omega
    rw [e] at this
    simpa using this
  · cases n with
    | zero => exact .inl rfl
    | succ n =>
      refine .inr ?_
      rw [if_pos (by omega)] at h4
      have e : (((n + 1 : Nat) : Int) - 1).toNat = n := by omega
      rw [e] at h4
      simpa using h4
def gcdL (ns : List Int) : Int := ns.foldl (fun f n => ((Int.gcd f n : Nat) : Int)) 0
theorem gcdL_snoc (ns : List Int) (n : Int) : gcdL (ns ++ [n]) = ((Int.gcd (gcdL ns) n : Nat) : Int) := by simp [gcdL, List.foldl_append]
/-- place by place -/
def padd (a b : List Int) : List Int := (List.range (max a.length b.length)).map fun i => a.getD i 0 + b.getD i 0
theorem padd_len (a b : List Int) : (padd a b).length = max a.length b.length := by simp [padd]
theorem zadd_end (a b : List Int) : (List.map (fun (k' : Int) => if k' < (a.length : Int) ∧ k' < (b.length : Int) then a.getD k'.toNat 0 + b.getD k'.toNat 0 else if k' < (a.length : Int) ∧ ¬ k' < (b.length : Int) then a.getD k'.toNat 0 + 0 else 0 + b.getD k'.toNat 0)
    (rangeKs 0 ((if (b.length : Int) > (a.length : Int) then (b.length : Int) else (a.length : Int)) - 0).toNat)) = padd a b := by
  have e : ((if (b.length : Int) > (a.length : Int) then (b.length : Int) else (a.length : Int)) - 0).toNat = max a.length b.length := by split <;> omega
  rw [e]
  unfold padd rangeKs
  rw [List.map_map]
  refine List.map_congr_left fun i hi => ?_
  have hi' := List.mem_range.mp hi
  simp only [Function.comp_apply, Int.zero_add, Int.toNat_natCast]
  by_cases h1 : i < a.length
  · by_cases h2 : i < b.length
    · rw [if_pos ⟨by omega, by omega⟩]
    · rw [if_neg (by omega), if_pos ⟨by omega, by omega⟩]
      have : b.getD i 0 = 0 := by rw [List.getD_eq_getElem?_getD, List.getElem?_eq_none (by omega)]; rfl
      rw [this]
  · rw [if_neg (by omega), if_neg (by omega)]
    have : a.getD i 0 = 0 := by rw [List.getD_eq_getElem?_getD, List.getElem?_eq_none (by omega)]; rfl
    rw [this]; omega
def pscale (p : List Int) (k : Int) : List Int := if k = 0 then [] else p.map (· * k)
def ev (p : List Int) (x : Int) : Int := p.foldr (fun c acc => acc * x + c) 0
theorem ev_nil (x : Int) : ev [] x = 0 := rfl
theorem ev_cons (c : Int) (p : List Int) (x : Int) : ev (c :: p) x = ev p x * x + c := rfl
theorem drop_rev {ns : List Int} {i : Nat} {n : Int} (h : ns[ns.length - 1 - i]? = some n) (hi : i < ns.length) : ns.drop (ns.length - (i + 1)) = n :: ns.drop (ns.length - i) := by
  have e : ns.length - (i + 1) = ns.length - 1 - i := by omega
  have e2 : ns.length - i = (ns.length - 1 - i) + 1 := by omega
  rw [e, e2]
  obtain ⟨hlt, hx⟩ := List.getElem?_eq_some_iff.mp h
  rw [← hx]
  exact (List.getElem_cons_drop ..).symm
theorem rev_item {vs : List Value} {ns : List Int} (hi : IntsAre vs ns) {i : Nat} {v : Value} (hv : vs[vs.length - 1 - i]? = some v) (hlt : i < vs.length) : ∃ n t, v = .int n t ∧ ns[ns.length - 1 - i]? = some n ∧ i < ns.length := by
  have hl := hi.length
  rw [hl] at hv hlt
  have hlt' : ns.length - 1 - i < ns.length := by omega
  obtain ⟨t, hx⟩ := hi.get (ns.length - 1 - i) ns[ns.length - 1 - i] (by simp [hlt'])
  rw [hx] at hv
  exact ⟨_, t, (Option.some.inj hv).symm, by simp [hlt'], hlt⟩
def dif (l : List Int) : List Int := (List.range (l.length - 1)).map fun i => l.getD (i + 1) 0 - l.getD i 0
theorem dif_len (l : List Int) : (dif l).length = l.length - 1 := by simp [dif]
def fdN : Nat → List Int → List Int
  | n + 1, a :: r => a :: fdN n (dif (a :: r))
  | _, _ => []
/-- the first differences -/
def fdF (l : List Int) : List Int := fdN l.length l
theorem fdF_cons (a : Int) (r : List Int) : fdF (a :: r) = a :: fdF (dif (a :: r)) := by
  have e : (dif (a :: r)).length = r.length := by rw [dif_len]; rfl
  unfold fdF
  rw [e]; rfl
theorem fdN_len : ∀ (n : Nat) (l : List Int), l.length = n → (fdN n l).length = n
  | 0, l, h => by cases l <;> rfl
  | n + 1, [], h => by cases h
  | n + 1, a :: r, h => by
    have e : (dif (a :: r)).length = n := by rw [dif_len]; simpa using h
    simp only [fdN, List.length_cons, fdN_len n _ e]
theorem fdF_len (l : List Int) : (fdF l).length = l.length := fdN_len _ l rfl
theorem dif_is (l : List Int) : (List.map (fun (k' : Int) => l.getD (k' + 1).toNat 0 - l.getD k'.toNat 0) (rangeKs 0 ((l.length : Int) - 1 - 0).toNat)) = dif l := by
  have e : ((l.length : Int) - 1 - 0).toNat = l.length - 1 := by omega
  rw [e]
  unfold dif rangeKs
  rw [List.map_map]
  refine List.map_congr_left fun i hi => ?_
  simp only [Function.comp_apply, Int.zero_add, Int.toNat_natCast]
  have e2 : ((i : Int) + 1).toNat = i + 1 := by omega
  rw [e2]
theorem fd_step {fn nn ns : List Int} (h : fn ++ fdF nn = fdF ns) (h0 : (0 : Int) < nn.length) : (fn ++ [nn.getD (Int.toNat 0) 0]) ++ fdF (dif nn) = fdF ns := by
  cases nn with
  | nil => simp at h0
  | cons a r => rw [← h, fdF_cons, List.append_assoc]; rfl
theorem fd_last {fn nn ns : List Int} (h : fn ++ fdF nn = fdF ns) (h0 : ¬ (0 : Int) < nn.length) : fn = fdF ns := by
  cases nn with
  | nil => rw [← h]; simp [fdF, fdN]
  | cons a r => simp at h0
def binF (n k : Int) : Int := (List.foldl (fun (σ : Int × Unit) k => ((σ.fst * (n - k)).fdiv (k + 1), ())) (1, ()) (rangeInts 0 1 (k - 0).toNat)).fst
def addAt (f : List Int) (i : Nat) (v : Int) : List Int := f.set i (f.getD i 0 + v)
def mulRow (f : List Int) (one : Nat) (left : Int) : List Int → List Int
  | [] => f
  | r :: b => mulRow (addAt f one (left * r)) (one + 1) left b
def mulAll (f : List Int) (one : Nat) (b : List Int) : List Int → List Int
  | [] => f
  | l :: a => mulAll (if l = 0 then f else mulRow f one l b) (one + 1) b a
def pmul (a b : List Int) : List Int := if a.length = 0 ∨ b.length = 0 then [] else mulAll (List.replicate (a.length + b.length - 1) 0) 0 b a
theorem mulRow_snoc (left r : Int) : ∀ (b : List Int) (f : List Int) (one : Nat), mulRow f one left (b ++ [r]) = addAt (mulRow f one left b) (one + b.length) (left * r)
  | [], f, one => by simp [mulRow]
  | q :: b, f, one => by
    show mulRow _ _ _ (b ++ [r]) = addAt (mulRow _ _ _ b) _ _
    rw [mulRow_snoc left r b, List.length_cons, Nat.add_assoc, Nat.add_comm 1]
theorem mulAll_snoc (b : List Int) (l : Int) : ∀ (a : List Int) (f : List Int) (one : Nat), mulAll f one b (a ++ [l]) = if l = 0 then mulAll f one b a else mulRow (mulAll f one b a) (one + a.length) l b
  | [], f, one => by simp [mulAll]
  | q :: a, f, one => by
    show mulAll _ _ _ (a ++ [l]) = if l = 0 then mulAll _ _ _ a else mulRow (mulAll _ _ _ a) _ _ _
    rw [mulAll_snoc b l a, List.length_cons, Nat.add_assoc, Nat.add_comm 1]
theorem addAt_len (f : List Int) (i : Nat) (v : Int) : (addAt f i v).length = f.length := by simp [addAt]
theorem mulRow_len (left : Int) : ∀ (b : List Int) (f : List Int) (one : Nat), (mulRow f one left b).length = f.length
  | [], _, _ => rfl
  | q :: b, f, one => by rw [mulRow, mulRow_len left b, addAt_len]
theorem mulAll_len (b : List Int) : ∀ (a : List Int) (f : List Int) (one : Nat), (mulAll f one b a).length = f.length
  | [], _, _ => rfl
  | q :: a, f, one => by
    rw [mulAll, mulAll_len b a]
    split
    · rfl
    · rw [mulRow_len]
theorem pmul_len (a b : List Int) : (pmul a b).length ≤ a.length + b.length := by
  unfold pmul
  split
  · simp
  · rw [mulAll_len, List.length_replicate]; omega
/-- Horner over lists -/
def pcomp (b : List Int) : List Int → List Int
  | [] => []
  | c :: a => zt (padd (pmul (pcomp b a) b) (zt [c]))
theorem pcomp_step {b rs : List Int} {n : Int} {i : Nat} (hb : b.length < 10) (h : rs.length ≤ 10 * i + 1) : (zt (padd (pmul rs b) (zt [n]))).length ≤ 10 * (i + 1) + 1 := by
  have h1 := zt_len (padd (pmul rs b) (zt [n]))
  have h2 := padd_len (pmul rs b) (zt [n])
  have h3 := pmul_len rs b
  have h4 := zt_len [n]
  have h5 : [n].length = 1 := rfl
  omega
def shRow (f : List Int) (n : Int) (hi : Nat) : Nat → List Int
  | 0 => f
  | c + 1 => addAt (shRow f n hi c) (hi - c) (n * (shRow f n hi c).getD (hi - c + 1) 0)
def shAll (f : List Int) (n : Int) : Nat → List Int
  | 0 => f
  | i + 1 => shRow (shAll f n i) n (f.length - 2) (f.length - 1 - i)
def pshift (f : List Int) (n : Int) : List Int := shAll f n (f.length - 1)
theorem shRow_len (f : List Int) (n : Int) (hi : Nat) : ∀ c, (shRow f n hi c).length = f.length
  | 0 => rfl
  | c + 1 => by rw [shRow, addAt_len, shRow_len f n hi c]
theorem shAll_len (f : List Int) (n : Int) : ∀ i, (shAll f n i).length = f.length
  | 0 => rfl
  | i + 1 => by rw [shAll, shRow_len, shAll_len f n i]
theorem pshift_len (f : List Int) (n : Int) : (pshift f n).length = f.length := shAll_len f n _
def vals (p : List Int) (k : Nat) : List Int := (List.range k).map fun (i : Nat) => ev p (i : Int)
theorem vals_is (p : List Int) (k : Int) : List.map (fun (k' : Int) => ev p k') (rangeKs 0 (k - 0).toNat) = vals p k.toNat := by
  unfold vals rangeKs
  rw [List.map_map, Int.sub_zero]
  exact List.map_congr_left fun i _ => by simp
theorem vals_len (p : List Int) (k : Nat) : (vals p k).length = k := by simp [vals]
def ratG (x y : Int) : Int := if 0 < y then (Int.gcd x y : Int) else 0 - (Int.gcd x y : Int)
/-- a turn of the divided differences -/
def rdv (r : List Int) (k : Nat) : List Int := (List.range (r.length - 1)).map fun (i : Nat) => Int.fdiv (r.getD (i + 1) 0 - r.getD i 0) ((k : Int) + 1)
def thrRow (v : List Int) : Nat → List Int
  | 0 => v
  | i + 1 => rdv (thrRow v i) i
def thrBase : Nat → List Int
  | 0 => [1]
  | i + 1 => pmul (thrBase i) [-(i : Int), 1]
def thrF (c : Nat → Int) : Nat → List Int
  | 0 => []
  | i + 1 => zt (padd (thrF c i) (pscale (thrBase i) (c i)))
theorem rdv_len (r : List Int) (k : Nat) : (rdv r k).length = r.length - 1 := by simp [rdv]
theorem thrRow_len (v : List Int) : ∀ i, (thrRow v i).length = v.length - i
  | 0 => rfl
  | i + 1 => by rw [thrRow, rdv_len, thrRow_len v i]; omega
theorem thrBase_len : ∀ i, (thrBase i).length ≤ 2 * i + 1
  | 0 => Nat.le_refl _
  | i + 1 => by
    have h1 := pmul_len (thrBase i) [-(i : Int), 1]
    have h2 := thrBase_len i
    have h3 : [-(i : Int), 1].length = 2 := rfl
    rw [thrBase]; omega
theorem rdv_is (r : List Int) (k : Int) (j : Nat) (h : k = j) : (List.map (fun (k' : Int) => Int.fdiv (r.getD (k' + 1).toNat 0 - r.getD k'.toNat 0) (k + 1)) (rangeKs 0 ((r.length : Int) - 1 - 0).toNat)) = rdv r j := by
  have e : ((r.length : Int) - 1 - 0).toNat = r.length - 1 := by omega
  rw [e, h]
  unfold rdv rangeKs
  rw [List.map_map]
  refine List.map_congr_left fun i hi => ?_
  simp only [Function.comp_apply, Int.zero_add, Int.toNat_natCast]
  have e2 : ((i : Int) + 1).toNat = i + 1 := by omega
  rw [e2]
def dvRow (r : List Int) (k : Nat) (number p : Int) : List Int → List Int
  | [] => r
  | o :: b => dvRow (r.set k (Int.fmod (r.getD k 0 - number * o) p)) (k + 1) number p b
theorem dvRow_snoc (number p o : Int) : ∀ (b r : List Int) (k : Nat), dvRow r k number p (b ++ [o]) = (dvRow r k number p b).set (k + b.length) (Int.fmod ((dvRow r k number p b).getD (k + b.length) 0 - number * o) p)
  | [], r, k => by simp [dvRow]
  | q :: b, r, k => by
    show dvRow _ _ _ _ (b ++ [o]) = (dvRow _ _ _ _ b).set _ (Int.fmod ((dvRow _ _ _ _ b).getD _ 0 - _) p)
    rw [dvRow_snoc number p o b, List.length_cons, Nat.add_assoc, Nat.add_comm 1]
theorem dvRow_len (number p : Int) : ∀ (b r : List Int) (k : Nat), (dvRow r k number p b).length = r.length
  | [], _, _ => rfl
  | o :: b, r, k => by rw [dvRow, dvRow_len number p b, List.length_set]
/-- i turns of the division from the place top down -/
def dvAll (r b : List Int) (p : Int) (top : Nat) : Nat → List Int
  | 0 => r
  | i + 1 => if Int.fmod ((dvAll r b p top i).getD (top - i + b.length - 1) 0 * 1) p = 0 then dvAll r b p top i else dvRow (dvAll r b p top i) (top - i) (Int.fmod ((dvAll r b p top i).getD (top - i + b.length - 1) 0 * 1) p) p b
def pmod (a b : List Int) (p : Int) : List Int := zt ((dvAll a b p (a.length - b.length) (a.length + 1 - b.length)).take (b.length - 1))
theorem dvAll_len (r b : List Int) (p : Int) (top : Nat) : ∀ i, (dvAll r b p top i).length = r.length
  | 0 => rfl
  | i + 1 => by
    rw [dvAll]
    split
    · exact dvAll_len r b p top i
    · rw [dvRow_len, dvAll_len r b p top i]
/-- the model's product of two pairs -/
def rmulF (a b : Int × Int) : Int × Int := (Int.fdiv (a.1 * b.1) (ratG (a.1 * b.1) (a.2 * b.2)), Int.fdiv (a.2 * b.2) (ratG (a.1 * b.1) (a.2 * b.2)))
def raddF (a b : Int × Int) : Int × Int := (Int.fdiv (a.1 * b.2 + b.1 * a.2) (ratG (a.1 * b.2 + b.1 * a.2) (a.2 * b.2)), Int.fdiv (a.2 * b.2) (ratG (a.1 * b.2 + b.1 * a.2) (a.2 * b.2)))
def qatF (x : Int) : List (Int × Int) → Int × Int
  | [] => (0, 1)
  | c :: r => raddF (rmulF (qatF x r) (x, 1)) c
theorem drop_rev2 {ns : List (Int × Int)} {i : Nat} {n : Int × Int} (h : ns[ns.length - 1 - i]? = some n) (hi : i < ns.length) : ns.drop (ns.length - (i + 1)) = n :: ns.drop (ns.length - i) := by
  have e : ns.length - (i + 1) = ns.length - 1 - i := by omega
  have e2 : ns.length - i = (ns.length - 1 - i) + 1 := by omega
  rw [e, e2]
  obtain ⟨hlt, hx⟩ := List.getElem?_eq_some_iff.mp h
  rw [← hx]
  exact (List.getElem_cons_drop ..).symm
theorem snd_one (ns : List Int) : ∀ p ∈ ns.map (fun a => (a, (1 : Int))), p.2 = 1 := fun p hp => by
  obtain ⟨a, _, rfl⟩ := List.mem_map.mp hp; rfl
def fac : Nat → Int
  | 0 => 1
  | i + 1 => fac i * ((i : Int) + 1)
def dueF (cs : List Int) : List Int := (List.range cs.length).map fun j => fac j * cs.getD j 0
theorem times_bound (a0 a1 a2 a3 a4 : Int) (hts : [a0, a1, a2, a3, a4] = [1, 1, 1, 1, 1] ∨ [a0, a1, a2, a3, a4] = [12, 12, 6, 2, 1] ∨ [a0, a1, a2, a3, a4] = [6, 3, 3, 1, 5]) :
    ∀ i : Nat, i < 5 → 1 ≤ [a0, a1, a2, a3, a4].getD i 0 ∧ [a0, a1, a2, a3, a4].getD i 0 ≤ 12 := by
  intro i hi
  rcases hts with h | h | h <;> rw [h] <;> (have : i = 0 ∨ i = 1 ∨ i = 2 ∨ i = 3 ∨ i = 4 := by omega) <;> rcases this with h | h | h | h | h <;> subst h <;> decide
theorem num_bound (t r : Int) (h1 : 1 ≤ t) (h2 : t ≤ 12) (h3 : 0 ≤ r) (h4 : r < 7) : -36 ≤ t * (r - 3) ∧ t * (r - 3) ≤ 36 := by
  have : r = 0 ∨ r = 1 ∨ r = 2 ∨ r = 3 ∨ r = 4 ∨ r = 5 ∨ r = 6 := by omega
  rcases this with h | h | h | h | h | h | h <;> subst h <;> constructor <;> omega
theorem fac_bound : ∀ i : Nat, i < 5 → 1 ≤ fac i ∧ fac i ≤ 24 := by
  intro i hi
  have : i = 0 ∨ i = 1 ∨ i = 2 ∨ i = 3 ∨ i = 4 := by omega
  rcases this with h | h | h | h | h <;> subst h <;> decide
theorem mul_bound (f n : Int) (h1 : 1 ≤ f) (h2 : f ≤ 24) (h3 : -36 ≤ n) (h4 : n ≤ 36) : -864 ≤ f * n ∧ f * n ≤ 864 := by
  constructor
  · have := Int.mul_le_mul_of_nonneg_left h3 (show 0 ≤ f by omega); have h5 : f * (-36) = -36 * f := Int.mul_comm _ _; omega
  · have := Int.mul_le_mul_of_nonneg_left h4 (show 0 ≤ f by omega); have h5 : f * 36 = 36 * f := Int.mul_comm _ _; omega
theorem mul_bound2 (f k : Int) (h1 : 1 ≤ f) (h2 : f ≤ 24) (h3 : 0 ≤ k) (h4 : k < 5) : 0 ≤ f * (k + 1) ∧ f * (k + 1) ≤ 120 := by
  have : k = 0 ∨ k = 1 ∨ k = 2 ∨ k = 3 ∨ k = 4 := by omega
  rcases this with h | h | h | h | h <;> subst h <;> omega
theorem thrF_congr {c d : Nat → Int} : ∀ i, (∀ j, j < i → c j = d j) → thrF c i = thrF d i
  | 0, _ => rfl
  | i + 1, h => by rw [thrF, thrF, thrF_congr i (fun j hj => h j (by omega)), h i (by omega)]
theorem dueF_snoc (cs : List Int) (n : Int) : dueF (cs ++ [n]) = dueF cs ++ [fac cs.length * n] := by
  rw [dueF, dueF, List.length_append, List.length_singleton, List.range_succ, List.map_append]
  congr 1
  · refine List.map_congr_left (fun j hj => ?_)
    have := List.mem_range.mp hj
    simp [List.getD, List.getElem?_append_left this]
  · simp [List.getD]
def pP (p : Int) : List Int := [0, p - 1] ++ (List.replicate (p - 2).toNat [0]).flatten ++ [1]
def binS (row : List Int) (j : Int) : Int := (List.map (fun k => (1 - 2 * Int.fmod k 2) * binF k j * row.getD k.toNat 0) (rangeKs j (5 - j).toNat)).sum
end Mine
namespace Mine.E
/-- an activation: everything that does not change while a body runs, but the names' places -/
structure K0 where
  w : World
  dp : Nat
  un : Nat
  gd : Option (List Code)
  fenv : Env
  outer : List Env
  A₀ : Around
  base : Heap
  h₀ : Heap
  L : Addr
  mean : ExcName → Option Value
  mg : Str → Option Value
  mb : Str → Option Value
structure Cx where
  k : K0
  env : Env
abbrev Cx.A (c : Cx) : Around := { handled := none, depth := c.k.dp, frames := some (c.k.fenv :: c.k.outer), guards := c.k.gd, units := c.k.un }
abbrev Cx.M (c : Cx) : Model := model PySem.Challenge.rw_xm0082_01.row.prog c.k.w
inductive AV where
  | int (n : Int) | ref (a : Addr) | bool (b : Bool) | none
def AV.of : AV → Value → Prop
  | .int n, v => ∃ t, v = .int n t
  | .ref a, v => v = .ref a
  | .bool b, v => v = .bool b
  | .none, v => v = .none
inductive AVs : List AV → List Value → Prop
  | nil : AVs [] []
  | cons {a : AV} {v : Value} {as : List AV} {vs : List Value} : a.of v → AVs as vs → AVs (a :: as) (v :: vs)
inductive AO where
  | ints (l : List Int) | tup (l : List AV) | lst (l : List AV) | plain (l : List Int)
def AO.of : AO → Obj → Prop
  | .ints l, o => o.cls = .type "list" ∧ ∃ vs n, o.data = .seq (List.toArray vs) n ∧ IntsAre vs l
  | .tup l, o => o.cls = .type "tuple" ∧ ∃ vs n, o.data = .seq (List.toArray vs) n ∧ AVs l vs
  | .lst l, o => o.cls = .type "list" ∧ ∃ vs n, o.data = .seq (List.toArray vs) n ∧ AVs l vs
  | .plain l, o => ∃ vs n, o = { cls := .type "list", dict := none, data := .seq (List.toArray vs) n, slots := #[] } ∧ IntsAre vs l
abbrev Loc := List (Str × AV)
abbrev Led := List (Addr × AO)
/-- the heap has the object -/
def Has (h : Heap) (a : Addr) (o : AO) : Prop := ∃ ob, o.of ob ∧ h.get? a = some ob
/-- what a name holds: in the frame, or in a cell -/
def Named (c : Cx) (h : Heap) (x : Str) (v : AV) : Prop :=
  ∃ cv, v.of cv ∧ ((c.env.kindOf x = some .local ∧ ∃ m, h.Ns c.env.locals m ∧ m x = some cv) ∨ (c.env.kindOf x = some .cell ∧ ∃ a, c.env.cells.lookup x = some a ∧ h.IsCell a (some cv)))
/-- what holds of an activation all along -/
structure Cx.Ok (c : Cx) : Prop where
  B : Below c.k.A₀ c.k.base c.k.outer c.k.h₀
  X : R0At c.k.h₀
  T : Top vw (looseW vw []) c.k.mean c.k.mg c.k.mb c.k.h₀
  hf : c.k.fenv.frame = some c.k.L
  hk : c.k.fenv.scope.kind = .function
  fn : c.env.scope.kind = .function
  cd : ∀ x y a, c.env.cells.lookup x = some a → c.env.cells.lookup y = some a → x = y
  hl : c.env.locals = c.k.L ∨ (c.env.locals ≠ c.k.L ∧ c.k.h₀.get? c.env.locals = none)
structure At (c : Cx) (ρ : Loc) (σ : Led) (s : Shared) : Prop where
  ok : c.Ok
  fr : ∃ m, Fr c.k.h₀ c.k.L s.heap m
  ns : ∃ m, s.heap.Ns c.env.locals m
  loc : ∀ x v, ρ.lookup x = some v → Named c s.heap x v
  cf : ∀ x a, c.env.cells.lookup x = some a → c.k.h₀.get? a = none ∧ ∃ v, s.heap.IsCell a v
  led : ∀ p ∈ σ, Has s.heap p.1 p.2 ∧ p.1 ≠ c.k.L ∧ p.1 ≠ c.env.locals ∧ c.k.h₀.get? p.1 = none
  nd : σ.Pairwise fun p q => p.1 ≠ q.1
/-- what an expression leaves as it was: all but the objects of the ledger -/
structure Keep (σ σ' : Led) (h h' : Heap) : Prop where
  keep : ∀ b o, h.get? b = some o → (∀ p ∈ σ, p.1 ≠ b) → h'.get? b = some o
  new : ∀ p ∈ σ', (∃ q ∈ σ, q.1 = p.1) ∨ h.get? p.1 = none
  grow : ∀ b, h'.get? b = none → h.get? b = none
/-- what a statement leaves as it was -/
structure Stay (c : Cx) (σ σ' : Led) (h h' : Heap) : Prop where
  keep : ∀ b o, h.get? b = some o → b ≠ c.k.L → b ≠ c.env.locals → (∀ x a, c.env.cells.lookup x = some a → b ≠ a) → (∀ p ∈ σ, p.1 ≠ b) → h'.get? b = some o
  new : ∀ p ∈ σ', (∃ q ∈ σ, q.1 = p.1) ∨ h.get? p.1 = none
  grow : ∀ b, h'.get? b = none → h.get? b = none
theorem Has.seq {h : Heap} {a : Addr} {o : AO} (x : Has h a o) : ∃ ob xs n, h.get? a = some ob ∧ ob.data = .seq xs n := by
  obtain ⟨ob, ho, hg⟩ := x
  match o, ho with
  | .ints _, ⟨_, vs, n, e, _⟩ => exact ⟨_, _, _, hg, e⟩
  | .tup _, ⟨_, vs, n, e, _⟩ => exact ⟨_, _, _, hg, e⟩
  | .lst _, ⟨_, vs, n, e, _⟩ => exact ⟨_, _, _, hg, e⟩
  | .plain _, ⟨vs, n, e, _⟩ => exact ⟨_, _, _, hg, by rw [e]⟩
theorem Has.cell {h : Heap} {a b : Addr} {o : AO} {v : Option Value} (x : Has h a o) (hc : h.IsCell b v) : a ≠ b := fun e => by
  obtain ⟨ob, xs, n, hg, hd⟩ := x.seq
  obtain ⟨o', ho', hd'⟩ := hc
  rw [← e, hg] at ho'; cases ho'
  rw [hd] at hd'; cases hd'
theorem Has.mono {h h' : Heap} {a : Addr} {o : AO} (x : Has h a o) (hk : ∀ ob, h.get? a = some ob → h'.get? a = some ob) : Has h' a o := let ⟨ob, ho, hg⟩ := x; ⟨ob, ho, hk _ hg⟩
theorem ns_uniq {h : Heap} {L : Addr} {m m' : Str → Option Value} (a : h.Ns L m) (b : h.Ns L m') : m = m' := by
  obtain ⟨o, es, ep, ho, hd, _, hm⟩ := a
  obtain ⟨o', es', ep', ho', hd', _, hm'⟩ := b
  rw [ho] at ho'; cases ho'
  rw [hd] at hd'; cases hd'
  funext x
  rw [← hm, ← hm']
theorem cell_ne {h : Heap} {L a : Addr} {m : Str → Option Value} {v : Option Value} (hn : h.Ns L m) (hc : h.IsCell a v) : a ≠ L := fun e => by
  obtain ⟨o, es, ep, ho, hd, _⟩ := hn
  obtain ⟨o', ho', hd'⟩ := hc
  rw [e, ho] at ho'; cases ho'
  rw [hd] at hd'; cases hd'
theorem ns_is {h : Heap} {L : Addr} {m : Str → Option Value} (hn : h.Ns L m) : ∃ o, h.get? L = some o := let ⟨o, _, _, ho, _⟩ := hn; ⟨o, ho⟩
theorem Keep.refl {σ : Led} {h : Heap} : Keep σ σ h h := ⟨fun _ _ e _ => e, fun p hp => .inl ⟨p, hp, rfl⟩, fun _ e => e⟩
theorem Keep.trans {σ σ₁ σ₂ : Led} {h h₁ h₂ : Heap} (a : Keep σ σ₁ h h₁) (b : Keep σ₁ σ₂ h₁ h₂) : Keep σ σ₂ h h₂ where
  keep := fun x o e h4 => b.keep x o (a.keep x o e h4) fun p hp hx => by
    rcases a.new p hp with ⟨q, hq, e2⟩ | e2
    · exact h4 q hq (e2.trans hx)
    · rw [hx, e] at e2; cases e2
  new := fun p hp => by
    rcases b.new p hp with ⟨q, hq, e2⟩ | e2
    · rcases a.new q hq with ⟨r, hr, e3⟩ | e3
      · exact .inl ⟨r, hr, e3.trans e2⟩
      · exact .inr (e2 ▸ e3)
    · exact .inr (a.grow _ e2)
  grow := fun x e => a.grow x (b.grow x e)
theorem Keep.stay {c : Cx} {σ σ' : Led} {h h' : Heap} (a : Keep σ σ' h h') : Stay c σ σ' h h' := ⟨fun b o e _ _ _ h4 => a.keep b o e h4, a.new, a.grow⟩
theorem Keep.of {σ : Led} {h h' : Heap} (hk : ∀ b o, h.get? b = some o → h'.get? b = some o) : Keep σ σ h h' :=
  ⟨fun b o e _ => hk b o e, fun p hp => .inl ⟨p, hp, rfl⟩, fun b e => by
    cases q : h.get? b with
    | none => rfl
    | some o => rw [hk b o q] at e; cases e⟩
theorem Keep.add {σ σn : Led} {h h' : Heap} (hk : ∀ b o, h.get? b = some o → h'.get? b = some o) (hn : ∀ p ∈ σn, h.get? p.1 = none) : Keep σ (σn ++ σ) h h' :=
  { Keep.of (σ := σ) hk with new := fun p hp => (List.mem_append.mp hp).elim (fun x => .inr (hn p x)) fun x => .inl ⟨p, x, rfl⟩ }
theorem Keep.sub {σ σ₁ σ₂ : Led} {h h' : Heap} (a : Keep σ σ₁ h h') (hs : ∀ p ∈ σ₂, p ∈ σ₁) : Keep σ σ₂ h h' := ⟨a.keep, fun p hp => a.new p (hs p hp), a.grow⟩
theorem Stay.refl {c : Cx} {σ : Led} {h : Heap} : Stay c σ σ h h := Keep.refl.stay
theorem Stay.trans {c : Cx} {σ σ₁ σ₂ : Led} {h h₁ h₂ : Heap} (a : Stay c σ σ₁ h h₁) (b : Stay c σ₁ σ₂ h₁ h₂) : Stay c σ σ₂ h h₂ where
  keep := fun x o e h1 h2 h3 h4 => b.keep x o (a.keep x o e h1 h2 h3 h4) h1 h2 h3 fun p hp hx => by
    rcases a.new p hp with ⟨q, hq, e2⟩ | e2
    · exact h4 q hq (e2.trans hx)
    · rw [hx, e] at e2; cases e2
  new := fun p hp => by
    rcases b.new p hp with ⟨q, hq, e2⟩ | e2
    · rcases a.new q hq with ⟨r, hr, e3⟩ | e3
      · exact .inl ⟨r, hr, e3.trans e2⟩
      · exact .inr (e2 ▸ e3)
    · exact .inr (a.grow _ e2)
  grow := fun x e => a.grow x (b.grow x e)
theorem At.keep {c : Cx} {ρ : Loc} {σ : Led} {s : Shared} (h : At c ρ σ s) : ∀ b o, c.k.h₀.get? b = some o → s.heap.get? b = some o := let ⟨_, F⟩ := h.fr; F.keep
theorem At.tok {c : Cx} {ρ : Loc} {σ : Led} {s : Shared} (h : At c ρ σ s) (t : Nat) : At c ρ σ { s with toks := t } := ⟨h.ok, h.fr, h.ns, h.loc, h.cf, h.led, h.nd⟩
theorem At.off {c : Cx} {ρ : Loc} {σ : Led} {s : Shared} {b : Addr} (a : At c ρ σ s) (hb : (∃ o, c.k.h₀.get? b = some o) ∨ b = c.k.L ∨ b = c.env.locals ∨ (∃ v, s.heap.IsCell b v) ∨ s.heap.get? b = none) : ∀ p ∈ σ, p.1 ≠ b := fun p hp e => by
  obtain ⟨h1, h2, h3, h4⟩ := a.led p hp
  rcases hb with ⟨o, ho⟩ | hb | hb | ⟨v, hv⟩ | hb
  · rw [e, ho] at h4; cases h4
  · exact h2 (e.trans hb)
  · exact h3 (e.trans hb)
  · exact h1.cell hv e
  · obtain ⟨ob, _, _, hg, _⟩ := h1.seq
    rw [e, hb] at hg; cases hg
/-- an expression's run leaves the activation whole -/
theorem At.kept {c : Cx} {ρ : Loc} {σ σ' : Led} {s : Shared} {h' : Heap} {tk : Nat} (a : At c ρ σ s) (kp : Keep σ σ' s.heap h') (hl : ∀ p ∈ σ', Has h' p.1 p.2) (nd : σ'.Pairwise fun p q => p.1 ≠ q.1) : At c ρ σ' { s with heap := h', toks := tk } where
  ok := a.ok
  fr := let ⟨m, F⟩ := a.fr; ⟨m, F.ns.at' fun o e => kp.keep _ o e (a.off (.inr (.inl rfl))), fun b o e => kp.keep b o (F.keep b o e) (a.off (.inl ⟨o, e⟩)), F.above⟩
  ns := let ⟨m, hn⟩ := a.ns; ⟨m, hn.at' fun o e => kp.keep _ o e (a.off (.inr (.inr (.inl rfl))))⟩
  loc := fun x v hx => by
    obtain ⟨cv, hv, hw⟩ := a.loc x v hx
    refine ⟨cv, hv, ?_⟩
    rcases hw with ⟨hk2, m2, hn2, hm2⟩ | ⟨hk2, b, hc, hcell⟩
    · exact .inl ⟨hk2, m2, hn2.at' fun o e => kp.keep _ o e (a.off (.inr (.inr (.inl rfl)))), hm2⟩
    · obtain ⟨o, ho, hd⟩ := hcell
      exact .inr ⟨hk2, b, hc, o, kp.keep _ o ho (a.off (.inr (.inr (.inr (.inl ⟨_, o, ho, hd⟩))))), hd⟩
  cf := fun x b hc => by
    obtain ⟨h1, v, o, ho, hd⟩ := a.cf x b hc
    exact ⟨h1, v, o, kp.keep _ o ho (a.off (.inr (.inr (.inr (.inl ⟨_, o, ho, hd⟩))))), hd⟩
  led := fun p hp => by
    refine ⟨hl p hp, ?_⟩
    rcases kp.new p hp with ⟨q, hq, e⟩ | e
    · exact e ▸ (a.led q hq).2
    · obtain ⟨m, F⟩ := a.fr
      obtain ⟨m2, hn⟩ := a.ns
      obtain ⟨o1, ho1⟩ := ns_is F.ns
      obtain ⟨o2, ho2⟩ := ns_is hn
      refine ⟨fun x => ?_, fun x => ?_, ?_⟩
      · rw [x, ho1] at e; cases e
      · rw [x, ho2] at e; cases e
      · cases q : c.k.h₀.get? p.1 with
        | none => rfl
        | some o => rw [F.keep _ o q] at e; cases e
  nd := nd
theorem At.sub {c : Cx} {ρ : Loc} {σ σ' : Led} {s : Shared} (a : At c ρ σ s) (hs : σ'.Sublist σ) : At c ρ σ' s := { a with led := fun p hp => a.led p (hs.subset hp), nd := a.nd.sublist hs }
theorem At.less {c : Cx} {ρ ρ' : Loc} {σ : Led} {s : Shared} (a : At c ρ σ s) (hs : ∀ x v, ρ'.lookup x = some v → ρ.lookup x = some v) : At c ρ' σ s := { a with loc := fun x v h => a.loc x v (hs x v h) }
/-- new objects, all else as it was -/
theorem At.add {c : Cx} {ρ : Loc} {σ σn : Led} {s : Shared} {h' : Heap} {tk : Nat} (a : At c ρ σ s) (hk : ∀ b o, s.heap.get? b = some o → h'.get? b = some o) (hn : ∀ p ∈ σn, s.heap.get? p.1 = none ∧ Has h' p.1 p.2) (nd : σn.Pairwise fun p q => p.1 ≠ q.1) : At c ρ (σn ++ σ) { s with heap := h', toks := tk } :=
  a.kept (Keep.add hk fun p hp => (hn p hp).1) (fun p hp => (List.mem_append.mp hp).elim (fun x => (hn p x).2) fun x => (a.led p x).1.mono fun ob => hk _ ob)
    (List.pairwise_append.mpr ⟨nd, a.nd, fun p hp q hq e => a.off (.inr (.inr (.inr (.inr (hn p hp).1)))) q hq e.symm⟩)
theorem At.keeps {c : Cx} {ρ : Loc} {σ : Led} {s : Shared} {h' : Heap} {tk : Nat} (a : At c ρ σ s) (hk : ∀ b o, s.heap.get? b = some o → h'.get? b = some o) : At c ρ σ { s with heap := h', toks := tk } := a.add (σn := []) hk (fun _ h => nomatch h) .nil
theorem At.alloc {c : Cx} {ρ : Loc} {σ : Led} {s : Shared} {h' : Heap} {tk : Nat} {D : Addr} {o : AO} (a : At c ρ σ s) (hk : ∀ b o, s.heap.get? b = some o → h'.get? b = some o) (hD : s.heap.get? D = none) (hD' : Has h' D o) : At c ρ ((D, o) :: σ) { s with heap := h', toks := tk } :=
  a.add (σn := [(D, o)]) hk (fun p hp => by rw [List.mem_singleton.mp hp]; exact ⟨hD, hD'⟩) (.cons (fun _ h => nomatch h) .nil)
theorem Keep.alloc {σ : Led} {h h' : Heap} {D : Addr} {o : AO} (hk : ∀ b o, h.get? b = some o → h'.get? b = some o) (hD : h.get? D = none) : Keep σ ((D, o) :: σ) h h' := Keep.add (σn := [(D, o)]) hk fun p hp => by rw [List.mem_singleton.mp hp]; exact hD
theorem get_push {h : Heap} {o : Obj} : ∀ b x, h.get? b = some x → (h.push o).get? b = some x := fun _ _ e => Heap.get?_push_of_some _ e
theorem get_next {h : Heap} : h.get? h.objs.size = none := Heap.get?_none_of_le (Nat.le_refl _)
/-- an object of the ledger gets another content -/
theorem At.set {c : Cx} {ρ : Loc} {σ : Led} {s : Shared} {h' : Heap} {tk : Nat} {D : Addr} {o o' : AO} (a : At c ρ ((D, o) :: σ) s) (hs : Heap.SameBut D s.heap h') (ho : Has h' D o') : At c ρ ((D, o') :: σ) { s with heap := h', toks := tk } ∧ Keep ((D, o) :: σ) ((D, o') :: σ) s.heap h' := by
  have kp : Keep ((D, o) :: σ) ((D, o') :: σ) s.heap h' := ⟨fun b x e h4 => hs.extBut b x (Ne.symm (h4 _ (.head _))) e, fun p hp => .inl (by
    rcases List.mem_cons.mp hp with rfl | hp
    · exact ⟨_, .head _, rfl⟩
    · exact ⟨p, .tail _ hp, rfl⟩), fun b e => by
    by_cases hb : b = D
    · obtain ⟨ob, _, hg⟩ := ho
      rw [hb, hg] at e; cases e
    · exact (hs.2 b hb) ▸ e⟩
  have n := List.pairwise_cons.mp a.nd
  exact ⟨a.kept kp (fun p hp => by
    rcases List.mem_cons.mp hp with rfl | hp
    · exact ho
    · exact (a.led p (.tail _ hp)).1.mono fun ob e => hs.extBut _ _ (Ne.symm (n.1 p hp)) e) (.cons (fun q hq => n.1 q hq) n.2), kp⟩
/-- an object that may be read: of the ledger, or of the heap below -/
def Rd (c : Cx) (σ : Led) (a : Addr) (o : AO) : Prop := (a, o) ∈ σ ∨ Has c.k.h₀ a o
theorem Rd.has {c : Cx} {ρ : Loc} {σ : Led} {a : Addr} {o : AO} {s : Shared} (h : Rd c σ a o) (at_ : At c ρ σ s) : Has s.heap a o :=
  h.elim (fun h => (at_.led _ h).1) fun h => h.mono fun _ e => at_.keep _ _ e
theorem Has.list {h : Heap} {a : Addr} {l : List Int} (x : Has h a (.ints l)) : ∃ vs, h.IsList a vs.toArray ∧ IntsAre vs l := let ⟨_, ⟨hc, vs, _, hd, hi⟩, hg⟩ := x; ⟨vs, ⟨_, hg, hc, _, hd⟩, hi⟩
theorem AVs.length {as : List AV} {vs : List Value} (h : AVs as vs) : vs.length = as.length := by induction h with | nil => rfl | cons _ _ ih => simp [ih]
theorem AVs.get {as : List AV} {vs : List Value} (h : AVs as vs) : ∀ {i : Nat} {a : AV}, as[i]? = some a → ∃ v, vs[i]? = some v ∧ a.of v := by
  induction h with
  | nil => intro i a e; simp at e
  | cons h1 _ ih =>
    intro i a e
    cases i with
    | zero => simp at e; subst e; exact ⟨_, rfl, h1⟩
    | succ i => simpa using ih (by simpa using e)
theorem AVs.at_ {as : List AV} {vs : List Value} (h : AVs as vs) : ∀ (i : Nat) (v : Value), vs[i]? = some v → ∃ a, as[i]? = some a ∧ a.of v := by
  induction h with
  | nil => intro i v e; simp at e
  | cons h1 _ ih =>
    intro i v e
    cases i with
    | zero => simp at e; subst e; exact ⟨_, rfl, h1⟩
    | succ i => simpa using ih i v (by simpa using e)
theorem AVs.of_ints {vs : List Value} {l : List Int} (h : IntsAre vs l) : AVs (l.map .int) vs := by
  induction h with
  | nil => exact .nil
  | cons a t _ ih => exact .cons ⟨t, rfl⟩ ih
theorem AVs.ints {vs : List Value} : ∀ {l : List Int}, AVs (l.map .int) vs → IntsAre vs l
  | [], h => by cases h; exact .nil
  | _ :: _, h => by
    cases h with
    | cons h1 h2 => obtain ⟨t, rfl⟩ := h1; exact .cons _ _ (AVs.ints h2)
theorem AVs.snoc {as : List AV} {vs : List Value} {a : AV} {v : Value} (h : AVs as vs) (hv : a.of v) : AVs (as ++ [a]) (vs ++ [v]) := by
  induction h with
  | nil => exact .cons hv .nil
  | cons h1 _ ih => exact .cons h1 ih
theorem Has.ints {h : Heap} {a : Addr} {l : List Int} (x : Has h a (.lst (l.map .int))) : Has h a (.ints l) := let ⟨ob, ⟨hc, vs, n, hd, hi⟩, hg⟩ := x; ⟨ob, ⟨hc, vs, n, hd, hi.ints⟩, hg⟩
theorem Has.lst {h : Heap} {a : Addr} {l : List Int} (x : Has h a (.ints l)) : Has h a (.lst (l.map .int)) := let ⟨ob, ⟨hc, vs, n, hd, hi⟩, hg⟩ := x; ⟨ob, ⟨hc, vs, n, hd, .of_ints hi⟩, hg⟩
theorem Has.unplain {h : Heap} {a : Addr} {l : List Int} (x : Has h a (.plain l)) : Has h a (.ints l) := let ⟨ob, ⟨vs, n, e, hi⟩, hg⟩ := x; ⟨ob, ⟨by rw [e], vs, n, by rw [e], hi⟩, hg⟩
theorem avs_one {a : AV} {vs : List Value} (h : AVs [a] vs) : ∃ v, vs = [v] ∧ a.of v := by
  cases h with | cons h1 h2 => cases h2; exact ⟨_, rfl, h1⟩
theorem avs_two {a b : AV} {vs : List Value} (h : AVs [a, b] vs) : ∃ v u, vs = [v, u] ∧ a.of v ∧ b.of u := by
  cases h with | cons h1 h2 => obtain ⟨u, rfl, h3⟩ := avs_one h2; exact ⟨_, u, rfl, h1, h3⟩
theorem avs_three {a b d : AV} {vs : List Value} (h : AVs [a, b, d] vs) : ∃ v u t, vs = [v, u, t] ∧ a.of v ∧ b.of u ∧ d.of t := by
  cases h with | cons h1 h2 => obtain ⟨u, t, rfl, h3, h4⟩ := avs_two h2; exact ⟨_, u, t, rfl, h1, h3, h4⟩
end Mine.E
namespace Mine.E
/-- an expression that changes nothing has the value v -/
def Ev (c : Cx) (ρ : Loc) (σ : Led) (e : Expr) (v : AV) : Prop :=
  ∀ (s : Shared) (Q E : Value → Shared → Prop), At c ρ σ s → (∀ cv tk, v.of cv → Q cv { s with toks := tk }) → wpAny c.M c.A (eval e c.env) Q E s
/-- an expression, whatever it makes: K of its value and of the ledger behind it -/
def EvK (c : Cx) (ρ : Loc) (σ : Led) (e : Expr) (K : AV → Led → Prop) : Prop :=
  ∀ (s : Shared) (Q E : Value → Shared → Prop), At c ρ σ s → (∀ v cv σ' h tk, K v σ' → v.of cv → At c ρ σ' { s with heap := h, toks := tk } → Keep σ σ' s.heap h → Q cv { s with heap := h, toks := tk }) → wpAny c.M c.A (eval e c.env) Q E s
def EvKs (c : Cx) (ρ : Loc) (σ : Led) (es : List Expr) (K : List AV → Led → Prop) : Prop :=
  ∀ (s : Shared) (Q : List Value → Shared → Prop) (E : Value → Shared → Prop) (pos : Pos), At c ρ σ s → (∀ as vs σ' h tk, K as σ' → AVs as vs → At c ρ σ' { s with heap := h, toks := tk } → Keep σ σ' s.heap h → Q vs { s with heap := h, toks := tk }) → wpAny c.M c.A (spliced (backTo pos (starEach es c.env))) Q E s
/-- a test that changes nothing -/
def Tst (c : Cx) (ρ : Loc) (σ : Led) (e : Expr) (b : Bool) : Prop :=
  ∀ (whole : Sem Value) (s : Shared) (Q : Bool → Shared → Prop) (E : Value → Shared → Prop), At c ρ σ s → (∀ tk, Q b { s with toks := tk }) → wpAny c.M c.A (isTrue e c.env whole) Q E s
/-- a test, whatever it makes -/
def TstK (c : Cx) (ρ : Loc) (σ : Led) (e : Expr) (K : Bool → Led → Prop) : Prop :=
  ∀ (whole : Sem Value) (s : Shared) (Q : Bool → Shared → Prop) (E : Value → Shared → Prop), At c ρ σ s → (∀ b σ' h tk, K b σ' → At c ρ σ' { s with heap := h, toks := tk } → Keep σ σ' s.heap h → Q b { s with heap := h, toks := tk }) → wpAny c.M c.A (isTrue e c.env whole) Q E s
/-- the statements run: behind them R holds of the names and the ledger; or they hand back a value with V -/
def Ex (c : Cx) (ss : List Stmt) (ρ : Loc) (σ : Led) (R : Loc → Led → Prop) (V : AV → Led → Prop) : Prop :=
  ∀ (s : Shared) (Q : Flow → Shared → Prop), At c ρ σ s →
    (∀ ρ' σ' h tk, R ρ' σ' → At c ρ' σ' { s with heap := h, toks := tk } → Stay c σ σ' s.heap h → Q .next { s with heap := h, toks := tk }) →
    (∀ v cv ρ' σ' h tk, V v σ' → v.of cv → At c ρ' σ' { s with heap := h, toks := tk } → Stay c σ σ' s.heap h → Q (.ret cv) { s with heap := h, toks := tk }) →
    wpAny c.M c.A (execs ss c.env) Q (fun _ _ => False) s
/-- a name that may be stored -/
def Sto (c : Cx) (x : Str) : Prop := c.env.kindOf x = some .local ∨ (c.env.kindOf x = some .cell ∧ ∃ a, c.env.cells.lookup x = some a)
/-- a name of the top -/
def Glo (c : Cx) (ρ : Loc) (σ : Led) (x : Str) (v : Value) : Prop := ∀ (s : Shared) (Q E : Value → Shared → Prop) (pos : Pos), At c ρ σ s → Q v s → wpAny c.M c.A (eval (.Name x pos) c.env) Q E s
section
variable {c : Cx} {ρ : Loc} {σ : Led} {R : Loc → Led → Prop} {V : AV → Led → Prop} {rest : List Stmt}
theorem Ev.const {k : Int} {kk : Nat} {pos : Pos} : Ev c ρ σ (.Constant (.int k) kk pos) (.int k) := fun _ _ _ _ h => wpAny_Constant_int (h _ _ ⟨_, rfl⟩)
theorem Ev.name {x : Str} {pos : Pos} {v : AV} (hx : ρ.lookup x = some v) (hd : (x == ("__debug__" : Str)) = false := by decide) : Ev c ρ σ (.Name x pos) v := fun s Q E a h => by
  obtain ⟨cv, hv, hw⟩ := a.loc x v hx
  refine wpAny_Name ?_ hd
  rcases hw with ⟨hk, m, hn, hm⟩ | ⟨hk, ad, hc, hcell⟩
  · exact wpAny_loadName_local a.ok.fn hk hn hm (h cv s.toks hv)
  · exact wpAny_loadName_cell a.ok.fn hk hc hcell (h cv s.toks hv)
theorem Ev.bin {op : Operator} {a b : Expr} {pos : Pos} {x y z : Int} (ha : Ev c ρ σ a (.int x)) (hb : Ev c ρ σ b (.int y))
    (hop : ∀ (s : Shared) (t u : Tok) (Q E : Value → Shared → Prop), (∀ v tk, Q (.int z v) { s with toks := tk }) → wpAny c.M c.A (binaryOp op (.int x t) (.int y u)) Q E s) : Ev c ρ σ (.BinOp a op b pos) (.int z) := fun s Q E at_ h =>
  wpAny_BinOp (ha s _ _ at_ fun cv tk ⟨t, e⟩ => by
    subst e
    exact hb _ _ _ (at_.tok tk) fun cv tk ⟨u, e⟩ => by
      subst e
      exact hop _ _ _ _ _ fun v tk => h _ _ ⟨_, rfl⟩)
theorem Ev.add {a b : Expr} {pos : Pos} {x y : Int} (ha : Ev c ρ σ a (.int x)) (hb : Ev c ρ σ b (.int y)) : Ev c ρ σ (.BinOp a .Add b pos) (.int (x + y)) := Ev.bin ha hb fun _ _ _ _ _ h => add_int (h _ _)
theorem Ev.sub {a b : Expr} {pos : Pos} {x y : Int} (ha : Ev c ρ σ a (.int x)) (hb : Ev c ρ σ b (.int y)) : Ev c ρ σ (.BinOp a .Sub b pos) (.int (x - y)) := Ev.bin ha hb fun _ _ _ _ _ h => sub_int (h _ _)
theorem Ev.mul {a b : Expr} {pos : Pos} {x y : Int} (ha : Ev c ρ σ a (.int x)) (hb : Ev c ρ σ b (.int y)) (hm : IntMulOk x y) : Ev c ρ σ (.BinOp a .Mult b pos) (.int (x * y)) := Ev.bin ha hb fun _ _ _ _ _ h => mul_int (h _ _) hm
theorem Ev.mod {a b : Expr} {pos : Pos} {x y : Int} (ha : Ev c ρ σ a (.int x)) (hb : Ev c ρ σ b (.int y)) (hy : y ≠ 0) : Ev c ρ σ (.BinOp a .Mod b pos) (.int (Int.fmod x y)) := Ev.bin ha hb fun _ _ _ _ _ h => mod_int' hy (h _ _)
theorem Ev.div {a b : Expr} {pos : Pos} {x y : Int} (ha : Ev c ρ σ a (.int x)) (hb : Ev c ρ σ b (.int y)) (hy : y ≠ 0) (hs : y.natAbs < 1073741824) : Ev c ρ σ (.BinOp a .FloorDiv b pos) (.int (Int.fdiv x y)) := Ev.bin ha hb fun _ _ _ _ _ h => floordiv_int hy (h _ _) (Or.inl (PyProof.noPylong_small hs))
theorem Ev.neg {a : Expr} {pos : Pos} {x : Int} (ha : Ev c ρ σ a (.int x)) : Ev c ρ σ (.UnaryOp .USub a pos) (.int (-x)) := fun s Q E at_ h =>
  UnaryOp_ (ha s _ _ at_ fun cv tk ⟨t, e⟩ => by
    subst e
    exact neg_int (h _ _ ⟨_, rfl⟩))
theorem Ev.item {e i : Expr} {pos : Pos} {a : Addr} {l : List Int} {k : Int} (he : Ev c ρ σ e (.ref a)) (hi : Ev c ρ σ i (.int k)) (hr : Rd c σ a (.ints l)) (h0 : 0 ≤ k) (h1 : k < l.length) (hfit : l.length < 1000000)
    (hs : ∀ u : Tok, subscripted i false (.ref a) (.int k u) = operate [.ref a, .int k u] (getItem (.ref a) (.int k u)) := by intro _; with_unfolding_all rfl) (hg : ∀ r, letTemporaryGo e (.ref a) r = pure () := by intro _; with_unfolding_all rfl) :
    Ev c ρ σ (.Subscript e i pos) (.int (l.getD k.toNat 0)) := fun s Q E at_ h =>
  Subscript_ (he s _ _ at_ fun cv tk e1 => by
    cases e1
    exact hi _ _ _ (at_.tok tk) fun cv tk2 ⟨u, e2⟩ => by
      subst e2
      obtain ⟨vs, hl, hv⟩ := (hr.has (at_.tok tk2)).list
      exact item_list_ints hl hv h0 h1 (by omega) (fun t => h _ _ ⟨_, rfl⟩) (hs u) hg)
theorem Ev.ifT {t a b : Expr} {pos : Pos} {v : AV} (ht : Tst c ρ σ t true) (ha : Ev c ρ σ a v) : Ev c ρ σ (.IfExp t a b pos) v := fun s Q E at_ h =>
  wpAny_IfExp (ht _ s _ _ at_ fun tk => by simpa using ha _ _ _ (at_.tok tk) h)
theorem Ev.ifF {t a b : Expr} {pos : Pos} {v : AV} (ht : Tst c ρ σ t false) (hb : Ev c ρ σ b v) : Ev c ρ σ (.IfExp t a b pos) v := fun s Q E at_ h =>
  wpAny_IfExp (ht _ s _ _ at_ fun tk => by simpa using hb _ _ _ (at_.tok tk) h)
theorem Ev.cast {e : Expr} {x y : Int} (h : Ev c ρ σ e (.int x)) (hxy : x = y) : Ev c ρ σ e (.int y) := hxy ▸ h
theorem EvK.mono {e : Expr} {K K' : AV → Led → Prop} (h : EvK c ρ σ e K) (hk : ∀ v σ', K v σ' → K' v σ') : EvK c ρ σ e K' := fun s Q E at_ k => h s Q E at_ fun v cv σ' h' tk q => k v cv σ' h' tk (hk v σ' q)
theorem EvK.pure {e : Expr} {v : AV} {K : AV → Led → Prop} (he : Ev c ρ σ e v) (hk : K v σ) : EvK c ρ σ e K := fun s Q E at_ k => he s Q E at_ fun cv tk hv => k v cv σ s.heap tk hk hv (at_.tok tk) .refl
/-- objects that nobody needs any more leave the ledger -/
theorem EvK.drop {e : Expr} {K : AV → Led → Prop} (he : EvK c ρ σ e fun v σ' => ∃ σ₂, σ₂.Sublist σ' ∧ K v σ₂) : EvK c ρ σ e K := fun s Q E at_ k => he s Q E at_ fun v cv _ h tk ⟨σ₂, hs, hK⟩ hv a kp => k v cv σ₂ h tk hK hv (a.sub hs) (kp.sub fun _ hp => hs.subset hp)
theorem EvK.ifK {t a b : Expr} {pos : Pos} {K : AV → Led → Prop} {u : Bool} (ht : Tst c ρ σ t u) (h1 : u = true → EvK c ρ σ a K) (h2 : u = false → EvK c ρ σ b K) : EvK c ρ σ (.IfExp t a b pos) K := fun s Q E at_ h =>
  wpAny_IfExp (ht _ s _ _ at_ fun tk => by
    cases u with
    | true => simpa using h1 rfl _ _ _ (at_.tok tk) h
    | false => simpa using h2 rfl _ _ _ (at_.tok tk) h)
theorem EvK.bin {op : Operator} {a b : Expr} {pos : Pos} {K : AV → Led → Prop}
    (ha : EvK c ρ σ a fun x σ₁ => ∃ n, x = .int n ∧ EvK c ρ σ₁ b fun y σ₂ => ∃ m z, y = .int m ∧ (∀ (s : Shared) (t u : Tok) (Q E : Value → Shared → Prop), (∀ v tk, Q (.int z v) { s with toks := tk }) → wpAny c.M c.A (binaryOp op (.int n t) (.int m u)) Q E s) ∧ K (.int z) σ₂) : EvK c ρ σ (.BinOp a op b pos) K := fun s Q E at_ k =>
  wpAny_BinOp (ha s _ _ at_ fun v cv σ₁ h tk ⟨n, e, hb⟩ hv a1 st1 => by
    subst e
    obtain ⟨t, rfl⟩ := hv
    exact hb _ _ _ a1 fun v2 cv2 σ₂ h2 tk2 ⟨m, z, e2, hop, hK⟩ hv2 a2 st2 => by
      subst e2
      obtain ⟨u, rfl⟩ := hv2
      exact hop _ _ _ _ _ fun v3 tk3 => k _ _ σ₂ h2 tk3 hK ⟨_, rfl⟩ (a2.tok tk3) (st1.trans st2))
theorem EvKs.nil {K : List AV → Led → Prop} (hk : K [] σ) : EvKs c ρ σ [] K := fun s Q E pos at_ k => spliced_none (k [] [] σ s.heap s.toks hk .nil at_ .refl)
theorem EvKs.cons {e : Expr} {es : List Expr} {K : List AV → Led → Prop} (he : EvK c ρ σ e fun v σ₁ => EvKs c ρ σ₁ es fun vs σ₂ => K (v :: vs) σ₂)
    (hp : ∀ pos, backTo pos (starEach (e :: es) c.env) = (false, eval e c.env) :: backTo pos (starEach es c.env) := by intro _; rfl) : EvKs c ρ σ (e :: es) K := fun s Q E pos at_ k => by
  rw [hp]
  exact PySem.Calls.spliced_cons (he s _ _ at_ fun v cv σ₁ h tk hs hv a1 st1 => hs _ _ _ pos a1 fun as vs σ₂ h2 tk2 hK hvs a2 st2 => k _ _ σ₂ h2 tk2 hK (.cons hv hvs) a2 (st1.trans st2))
/-- a pure expression at the head of a row -/
theorem EvKs.p {e : Expr} {es : List Expr} {v : AV} {K : List AV → Led → Prop} (he : Ev c ρ σ e v) (hs : EvKs c ρ σ es fun vs σ₂ => K (v :: vs) σ₂)
    (hp : ∀ pos, backTo pos (starEach (e :: es) c.env) = (false, eval e c.env) :: backTo pos (starEach es c.env) := by intro _; rfl) : EvKs c ρ σ (e :: es) K := EvKs.cons (EvK.pure he hs) hp
theorem Tst.cmp {op : CmpOp} {a b : Expr} {pos : Pos} {x y : Int} {r : Bool} (ha : Ev c ρ σ a (.int x)) (hb : Ev c ρ σ b (.int y))
    (hop : ∀ (s : Shared) (t u : Tok) (Q E : Value → Shared → Prop), Q (.bool r) s → wpAny c.M c.A (compareOp op (.int x t) (.int y u)) Q E s) (hm : behindInMarks op b = false := by with_unfolding_all rfl) : Tst c ρ σ (.Compare a [op] [b] pos) r := fun _ s _ _ at_ h =>
  wpAny_isTrue_Compare1 (ha s _ _ at_ fun cv tk ⟨t, e⟩ => by
    subst e
    exact hb _ _ _ (at_.tok tk) fun cv tk ⟨u, e⟩ => by
      subst e
      exact hop _ _ _ _ _ (wpAny_truthy_bool (h _))) hm
theorem Tst.eq {a b : Expr} {pos : Pos} {x y : Int} (ha : Ev c ρ σ a (.int x)) (hb : Ev c ρ σ b (.int y)) (hm : behindInMarks .Eq b = false := by with_unfolding_all rfl) : Tst c ρ σ (.Compare a [.Eq] [b] pos) (x == y) := Tst.cmp ha hb (fun _ _ _ _ _ h => eq_int h) hm
theorem Tst.ne {a b : Expr} {pos : Pos} {x y : Int} (ha : Ev c ρ σ a (.int x)) (hb : Ev c ρ σ b (.int y)) (hm : behindInMarks .NotEq b = false := by with_unfolding_all rfl) : Tst c ρ σ (.Compare a [.NotEq] [b] pos) (x != y) := Tst.cmp ha hb (fun _ _ _ _ _ h => ne_int h) hm
theorem Tst.lt {a b : Expr} {pos : Pos} {x y : Int} (ha : Ev c ρ σ a (.int x)) (hb : Ev c ρ σ b (.int y)) (hm : behindInMarks .Lt b = false := by with_unfolding_all rfl) : Tst c ρ σ (.Compare a [.Lt] [b] pos) (decide (x < y)) := Tst.cmp ha hb (fun _ _ _ _ _ h => lt_int h) hm
theorem Tst.gt {a b : Expr} {pos : Pos} {x y : Int} (ha : Ev c ρ σ a (.int x)) (hb : Ev c ρ σ b (.int y)) (hm : behindInMarks .Gt b = false := by with_unfolding_all rfl) : Tst c ρ σ (.Compare a [.Gt] [b] pos) (decide (x > y)) := Tst.cmp ha hb (fun _ _ _ _ _ h => gt_int h) hm
theorem Tst.ge {a b : Expr} {pos : Pos} {x y : Int} (ha : Ev c ρ σ a (.int x)) (hb : Ev c ρ σ b (.int y)) (hm : behindInMarks .GtE b = false := by with_unfolding_all rfl) : Tst c ρ σ (.Compare a [.GtE] [b] pos) (decide (x ≥ y)) := Tst.cmp ha hb (fun _ _ _ _ _ h => ge_int h) hm
theorem Tst.is {e : Expr} {b b' : Bool} (h : Tst c ρ σ e b) (e1 : b = b') : Tst c ρ σ e b' := e1 ▸ h
theorem Tst.andNil {pos : Pos} : Tst c ρ σ (.BoolOp .And [] pos) true := fun _ _ _ _ _ h => isTrue_and_nil (h _)
theorem Tst.orNil {pos : Pos} : Tst c ρ σ (.BoolOp .Or [] pos) false := fun _ _ _ _ _ h => isTrue_or_nil (h _)
theorem Tst.andF {x : Expr} {r : List Expr} {pos : Pos} (h : Tst c ρ σ x false) : Tst c ρ σ (.BoolOp .And (x :: r) pos) false := fun _ s _ _ at_ k =>
  isTrue_and (h _ s _ _ at_ fun tk => by simpa using k tk)
theorem Tst.andT {x : Expr} {r : List Expr} {pos : Pos} {b : Bool} (h : Tst c ρ σ x true) (h2 : Tst c ρ σ (.BoolOp .And r pos) b) : Tst c ρ σ (.BoolOp .And (x :: r) pos) b := fun wh s Q E at_ k =>
  isTrue_and (h _ s _ _ at_ fun tk => by simpa using h2 wh _ Q E (at_.tok tk) k)
theorem Tst.orT {x : Expr} {r : List Expr} {pos : Pos} (h : Tst c ρ σ x true) : Tst c ρ σ (.BoolOp .Or (x :: r) pos) true := fun _ s _ _ at_ k =>
  isTrue_or (h _ s _ _ at_ fun tk => by simpa using k tk)
theorem Tst.orF {x : Expr} {r : List Expr} {pos : Pos} {b : Bool} (h : Tst c ρ σ x false) (h2 : Tst c ρ σ (.BoolOp .Or r pos) b) : Tst c ρ σ (.BoolOp .Or (x :: r) pos) b := fun wh s Q E at_ k =>
  isTrue_or (h _ s _ _ at_ fun tk => by simpa using h2 wh _ Q E (at_.tok tk) k)
theorem Tst.and2 {x y : Expr} {pos : Pos} {b1 b2 : Bool} (h1 : Tst c ρ σ x b1) (h2 : b1 = true → Tst c ρ σ y b2) : Tst c ρ σ (.BoolOp .And [x, y] pos) (b1 && b2) := by
  cases b1 with
  | false => exact Tst.andF h1
  | true =>
    cases b2 with
    | false => exact Tst.andT h1 (Tst.andF (h2 rfl))
    | true => exact Tst.andT h1 (Tst.andT (h2 rfl) Tst.andNil)
theorem TstK.of {e : Expr} {b : Bool} {K : Bool → Led → Prop} (h : Tst c ρ σ e b) (hK : K b σ) : TstK c ρ σ e K := fun wh s Q E at_ k => h wh s Q E at_ fun tk => k b σ s.heap tk hK (at_.tok tk) .refl
theorem TstK.orNil {pos : Pos} {K : Bool → Led → Prop} (hK : K false σ) : TstK c ρ σ (.BoolOp .Or [] pos) K := .of .orNil hK
/-- an or: only its falsehood is asked for -/
theorem TstK.orF {x : Expr} {r : List Expr} {pos : Pos} {K : Bool → Led → Prop} (h : TstK c ρ σ x fun b σ₁ => b = false ∧ TstK c ρ σ₁ (.BoolOp .Or r pos) K) : TstK c ρ σ (.BoolOp .Or (x :: r) pos) K := fun wh s Q E at_ k =>
  isTrue_or (h _ s _ _ at_ fun b σ₁ h1 tk ⟨e, h2⟩ a1 k1 => by
    subst e
    simpa using h2 wh _ Q E a1 fun b2 σ₂ h2 tk2 hK a2 k2 => k b2 σ₂ h2 tk2 hK a2 (k1.trans k2))
theorem TstK.cmp {op : CmpOp} {a b : Expr} {pos : Pos} {K : Bool → Led → Prop}
    (ha : EvK c ρ σ a fun x σ₁ => EvK c ρ σ₁ b fun y σ₂ => ∃ r, (∀ (s : Shared) (v u : Value) (Q E : Value → Shared → Prop), At c ρ σ₂ s → x.of v → y.of u → (∀ h tk, (∀ b o, s.heap.get? b = some o → h.get? b = some o) → Q (.bool r) { s with heap := h, toks := tk }) → wpAny c.M c.A (compareOp op v u) Q E s) ∧ K r σ₂) (hm : behindInMarks op b = false := by with_unfolding_all rfl) : TstK c ρ σ (.Compare a [op] [b] pos) K := fun _ s _ _ at_ k =>
  wpAny_isTrue_Compare1 (ha s _ _ at_ fun x v σ₁ h1 tk1 hb hv a1 k1 => hb _ _ _ a1 fun y u σ₂ h2 tk2 ⟨r, hop, hK⟩ hu a2 k2 => hop _ _ _ _ _ a2 hv hu fun h3 tk3 hk3 => wpAny_truthy_bool (k r σ₂ h3 tk3 hK (a2.keeps hk3) ((k1.trans k2).trans (Keep.of hk3)))) hm
/-- ints compare -/
theorem cmp_ne {n m : Int} : ∀ (s : Shared) (v u : Value) (Q E : Value → Shared → Prop), At c ρ σ s → (AV.int n).of v → (AV.int m).of u → (∀ h tk, (∀ b o, s.heap.get? b = some o → h.get? b = some o) → Q (.bool (n != m)) { s with heap := h, toks := tk }) → wpAny c.M c.A (compareOp .NotEq v u) Q E s := fun s _ _ _ _ _ ⟨_, e1⟩ ⟨_, e2⟩ k => by subst e1; subst e2; exact ne_int (k s.heap s.toks fun _ _ e => e)
theorem cmp_eq {n m : Int} : ∀ (s : Shared) (v u : Value) (Q E : Value → Shared → Prop), At c ρ σ s → (AV.int n).of v → (AV.int m).of u → (∀ h tk, (∀ b o, s.heap.get? b = some o → h.get? b = some o) → Q (.bool (n == m)) { s with heap := h, toks := tk }) → wpAny c.M c.A (compareOp .Eq v u) Q E s := fun s _ _ _ _ _ ⟨_, e1⟩ ⟨_, e2⟩ k => by subst e1; subst e2; exact eq_int (k s.heap s.toks fun _ _ e => e)
theorem same_grow {L : Addr} {h h' : Heap} (hs : Heap.SameBut L h h') (hL : ∃ o, h'.get? L = some o) : ∀ b, h'.get? b = none → h.get? b = none := fun b e => by
  by_cases hb : b = L
  · obtain ⟨o, ho⟩ := hL; rw [hb, ho] at e; cases e
  · exact (hs.2 b hb) ▸ e
theorem stay_set {h h' : Heap} {m : Str → Option Value} (hn' : h'.Ns c.env.locals m) (hs : Heap.SameBut c.env.locals h h') : Stay c σ σ h h' :=
  ⟨fun b o e _ h2 _ _ => hs.extBut b o h2 e, fun p hp => .inl ⟨p, hp, rfl⟩, same_grow hs (ns_is hn')⟩
theorem stay_cell {h h' : Heap} {x : Str} {a : Addr} {v : Option Value} (ha : c.env.cells.lookup x = some a) (hc' : h'.IsCell a v) (hs : Heap.SameBut a h h') : Stay c σ σ h h' :=
  ⟨fun b o e _ _ h3 _ => hs.extBut b o (h3 x a ha) e, fun p hp => .inl ⟨p, hp, rfl⟩, same_grow hs (let ⟨o, ho, _⟩ := hc'; ⟨o, ho⟩)⟩
theorem At.setLocal {s : Shared} (at_ : At c ρ σ s) {x : Str} {v : AV} {cv : Value} {m : Str → Option Value} {h' : Heap} {tk : Nat} (hk : c.env.kindOf x = some .local) (hv : v.of cv) (hn : s.heap.Ns c.env.locals m)
    (hn' : h'.Ns c.env.locals (fun y => if y = x then some cv else m y)) (hs : Heap.SameBut c.env.locals s.heap h') : At c ((x, v) :: ρ) σ { s with heap := h', toks := tk } where
  ok := at_.ok
  fr := by
    obtain ⟨m', F⟩ := at_.fr
    rcases at_.ok.hl with e | ⟨e1, e2⟩
    · exact ⟨_, F.set (e ▸ hn') (e ▸ hs)⟩
    · exact ⟨_, F.change hs e1 e2⟩
  ns := ⟨_, hn'⟩
  loc := fun y u hy => by
    by_cases e : y = x
    · subst e
      simp only [List.lookup_cons, beq_self_eq_true] at hy
      cases hy
      exact ⟨cv, hv, .inl ⟨hk, _, hn', by simp⟩⟩
    · have hb : (y == x) = false := beq_eq_false_iff_ne.mpr e
      simp only [List.lookup_cons, hb] at hy
      obtain ⟨cu, hu, hw⟩ := at_.loc y u hy
      refine ⟨cu, hu, ?_⟩
      rcases hw with ⟨hk2, m2, hn2, hm2⟩ | ⟨hk2, a, hc, hcell⟩
      · exact .inl ⟨hk2, _, hn', by rw [ns_uniq hn2 hn] at hm2; simpa [e] using hm2⟩
      · exact .inr ⟨hk2, a, hc, hcell.sameBut hs (cell_ne hn hcell)⟩
  cf := fun y a hy => by
    obtain ⟨h1, u, hu⟩ := at_.cf y a hy
    exact ⟨h1, u, hu.sameBut hs (cell_ne hn hu)⟩
  led := fun p hp => by
    obtain ⟨ho, h1, h2, h3⟩ := at_.led p hp
    exact ⟨ho.mono fun ob hg => hs.extBut _ _ h2 hg, h1, h2, h3⟩
  nd := at_.nd
theorem At.setCell {s : Shared} (at_ : At c ρ σ s) {x : Str} {v : AV} {cv : Value} {a : Addr} {h' : Heap} {tk : Nat} (hk : c.env.kindOf x = some .cell) (ha : c.env.cells.lookup x = some a) (hv : v.of cv)
    (hc' : h'.IsCell a (some cv)) (hs : Heap.SameBut a s.heap h') : At c ((x, v) :: ρ) σ { s with heap := h', toks := tk } where
  ok := at_.ok
  fr := by
    obtain ⟨m', F⟩ := at_.fr
    obtain ⟨h1, u, hu⟩ := at_.cf x a ha
    exact ⟨_, F.change hs (cell_ne F.ns hu) h1⟩
  ns := by
    obtain ⟨m', hn⟩ := at_.ns
    obtain ⟨h1, u, hu⟩ := at_.cf x a ha
    exact ⟨_, hn.sameBut hs (Ne.symm (cell_ne hn hu))⟩
  loc := fun y u hy => by
    by_cases e : y = x
    · subst e
      simp only [List.lookup_cons, beq_self_eq_true] at hy
      cases hy
      exact ⟨cv, hv, .inr ⟨hk, a, ha, hc'⟩⟩
    · have hb : (y == x) = false := beq_eq_false_iff_ne.mpr e
      simp only [List.lookup_cons, hb] at hy
      obtain ⟨cu, hu, hw⟩ := at_.loc y u hy
      refine ⟨cu, hu, ?_⟩
      rcases hw with ⟨hk2, m2, hn2, hm2⟩ | ⟨hk2, a2, hc, hcell⟩
      · obtain ⟨_, u2, hu2⟩ := at_.cf x a ha
        exact .inl ⟨hk2, m2, hn2.sameBut hs (Ne.symm (cell_ne hn2 hu2)), hm2⟩
      · exact .inr ⟨hk2, a2, hc, hcell.sameBut hs (fun e2 => e (at_.ok.cd y x a (e2 ▸ hc) ha))⟩
  cf := fun y a2 hy => by
    obtain ⟨h1, u, hu⟩ := at_.cf y a2 hy
    refine ⟨h1, ?_⟩
    by_cases e : a2 = a
    · exact ⟨_, e ▸ hc'⟩
    · exact ⟨u, hu.sameBut hs e⟩
  led := fun p hp => by
    obtain ⟨ho, h1⟩ := at_.led p hp
    obtain ⟨_, u, hu⟩ := at_.cf x a ha
    exact ⟨ho.mono fun ob hg => hs.extBut _ _ (ho.cell hu) hg, h1⟩
  nd := at_.nd
theorem store_any {s : Shared} {Q : Unit → Shared → Prop} {E : Value → Shared → Prop} {x : Str} {v : AV} {cv : Value} (at_ : At c ρ σ s) (hx : Sto c x) (hv : v.of cv)
    (h : ∀ h' tk, At c ((x, v) :: ρ) σ { s with heap := h', toks := tk } → Stay c σ σ s.heap h' → (∃ b, Heap.SameBut b s.heap h' ∧ (b = c.env.locals ∨ (c.env.kindOf x = some .cell ∧ c.env.cells.lookup x = some b))) → Q () { s with heap := h', toks := tk }) : wpAny c.M c.A (storeName c.env x cv) Q E s := by
  rcases hx with hk | ⟨hk, a, ha⟩
  · obtain ⟨m, hn⟩ := at_.ns
    exact wpAny_storeName_local hk hn (fun h' hn' hs' => h h' _ (at_.setLocal hk hv hn hn' hs') (stay_set hn' hs') ⟨_, hs', .inl rfl⟩) (by rw [at_.ok.fn]; rfl)
  · obtain ⟨_, u, hu⟩ := at_.cf x a ha
    exact wpAny_storeName_cell at_.ok.fn hk ha hu fun h' hc' hs' => h h' s.toks (at_.setCell hk ha hv hc' hs') (stay_cell ha hc' hs') ⟨_, hs', .inr ⟨hk, ha⟩⟩
theorem Ex.nil (h : R ρ σ) : Ex c [] ρ σ R V := fun s Q at_ hR _ => wpAny_execs_nil (hR ρ σ s.heap s.toks h at_ .refl)
/-- after a first step to (ρ₁, σ₁) the rest runs -/
theorem Ex.after {s : Shared} {Q : Flow → Shared → Prop} {ρ₁ : Loc} {σ₁ : Led} {h : Heap} {tk : Nat} (rest_ : Ex c rest ρ₁ σ₁ R V) (at_ : At c ρ₁ σ₁ { s with heap := h, toks := tk }) (st : Stay c σ σ₁ s.heap h)
    (hR : ∀ ρ' σ' h tk, R ρ' σ' → At c ρ' σ' { s with heap := h, toks := tk } → Stay c σ σ' s.heap h → Q .next { s with heap := h, toks := tk })
    (hV : ∀ v cv ρ' σ' h tk, V v σ' → v.of cv → At c ρ' σ' { s with heap := h, toks := tk } → Stay c σ σ' s.heap h → Q (.ret cv) { s with heap := h, toks := tk }) :
    wpAny c.M c.A (execs rest c.env) Q (fun _ _ => False) { s with heap := h, toks := tk } :=
  rest_ _ Q at_ (fun ρ' σ' h' tk' r a s2 => hR ρ' σ' h' tk' r a (st.trans s2)) fun v cv ρ' σ' h' tk' r hv a s2 => hV v cv ρ' σ' h' tk' r hv a (st.trans s2)
/-- a ledger or a row of names that is smaller -/
theorem Ex.sub {ss : List Stmt} {ρ' : Loc} {σ' : Led} (hx : ∀ x v, ρ'.lookup x = some v → ρ.lookup x = some v) (hs : σ'.Sublist σ) (h : Ex c ss ρ' σ' R V) : Ex c ss ρ σ R V := fun s _ at_ hR hV =>
  Ex.after (s := s) (h := s.heap) (tk := s.toks) h ((at_.sub hs).less hx) (Keep.refl.sub fun _ hp => hs.subset hp).stay hR hV
theorem Ex.assign {x : Str} {px pos : Pos} {e : Expr} {v : AV} (he : Ev c ρ σ e v) (rest_ : Ex c rest ((x, v) :: ρ) σ R V) (hx : Sto c x := by exact Or.inl rfl)
    (hsw : swapsWith e (some (.Name x px)) pos.line c.env = pure false := by rfl) :
    Ex c (.Assign [.Name x px] e pos :: rest) ρ σ R V := fun s _ at_ hR hV =>
  wpAny_execs_cons (wpAny_Assign_Name (he s _ _ at_ fun _ tk hv =>
    store_any (at_.tok tk) hx hv fun h' tk' a' st' _ => Ex.after (s := s) rest_ a' st' hR hV) hsw)
theorem Ex.assignK {x : Str} {px pos : Pos} {e : Expr} (he : EvK c ρ σ e fun v σ' => Ex c rest ((x, v) :: ρ) σ' R V) (hx : Sto c x := by exact Or.inl rfl) (hsw : swapsWith e (some (.Name x px)) pos.line c.env = pure false := by rfl) : Ex c (.Assign [.Name x px] e pos :: rest) ρ σ R V := fun s _ at_ hR hV =>
  wpAny_execs_cons (wpAny_Assign_Name (he s _ _ at_ fun v cv σ' h tk r hv a1 st1 =>
    store_any a1 hx hv fun h' tk' a' st' _ => Ex.after (s := s) r a' (st1.stay.trans st') hR hV) hsw)
theorem Ex.ret {pos : Pos} {e : Expr} {v : AV} (he : Ev c ρ σ e v) (hv : V v σ) : Ex c (.Return (some e) pos :: rest) ρ σ R V := fun s _ at_ _ hV =>
  wpAny_execs_cons (wpAny_Return_some (he s _ _ at_ fun cv tk hc => hV v cv ρ σ s.heap tk hv hc (at_.tok tk) .refl))
theorem Ex.retK {pos : Pos} {e : Expr} (he : EvK c ρ σ e V) : Ex c (.Return (some e) pos :: rest) ρ σ R V := fun s _ at_ _ hV =>
  wpAny_execs_cons (wpAny_Return_some (he s _ _ at_ fun v cv σ' h tk r hv a1 st1 => hV v cv ρ σ' h tk r hv a1 st1.stay))
theorem Ex.augI {x : Str} {px pos : Pos} {op : Operator} {e : Expr} {a b z : Int} (hn : ρ.lookup x = some (.int a)) (he : Ev c ρ σ e (.int b))
    (hop : ∀ (s : Shared) (t u : Tok) (Q E : Value → Shared → Prop), (∀ v tk, Q (.int z v) { s with toks := tk }) → wpAny c.M c.A (inplaceOp op (.int a t) (.int b u)) Q E s) (rest_ : Ex c rest ((x, .int z) :: ρ) σ R V) (hx : Sto c x) : Ex c (.AugAssign (.Name x px) op e pos :: rest) ρ σ R V := fun s Q at_ hR hV => by
  obtain ⟨cv, ⟨t, rfl⟩, hw⟩ := at_.loc x _ hn
  have k : wpAny c.M c.A (eval e c.env) (fun v s₂ => wpAny c.M c.A (inplaceOp op (.int a t) v) (fun r s₃ => wpAny c.M c.A (storeName c.env x r) (fun _ s₄ => wpAny c.M c.A (execs rest c.env) _ (fun _ _ => False) s₄) (fun _ _ => False) s₃) (fun _ _ => False) s₂) (fun _ _ => False) s :=
    he s _ _ at_ fun cv tk ⟨u, e1⟩ => by
      subst e1
      exact hop _ _ _ _ _ fun v tk => store_any (v := .int z) (at_.tok _) hx ⟨_, rfl⟩ fun h' tk' a' st' _ => Ex.after (s := s) rest_ a' st' hR hV
  refine wpAny_execs_cons (wpAny_AugAssign_Name ?_)
  rcases hw with ⟨hk, m, hm, hv⟩ | ⟨hk, ad, hc, hcell⟩
  · exact wpAny_loadName_local at_.ok.fn hk hm hv k
  · exact wpAny_loadName_cell at_.ok.fn hk hc hcell k
theorem Ex.augSub {x : Str} {px pos : Pos} {e : Expr} {a b : Int} (hn : ρ.lookup x = some (.int a)) (he : Ev c ρ σ e (.int b)) (rest_ : Ex c rest ((x, .int (a - b)) :: ρ) σ R V) (hx : Sto c x := by exact Or.inl rfl) : Ex c (.AugAssign (.Name x px) .Sub e pos :: rest) ρ σ R V :=
  Ex.augI hn he (fun _ _ _ _ _ h => isub_int (h _ _)) rest_ hx
theorem Ex.ite {t : Expr} {a o : List Stmt} {pos : Pos} {b : Bool} {R1 : Loc → Led → Prop} (ht : Tst c ρ σ t b) (h1 : b = true → Ex c a ρ σ R1 V) (h2 : b = false → Ex c o ρ σ R1 V) (rest_ : ∀ ρ' σ', R1 ρ' σ' → Ex c rest ρ' σ' R V) :
    Ex c (.If t a o pos :: rest) ρ σ R V := fun s _ at_ hR hV =>
  wpAny_execs_cons (wpAny_If (ht _ s _ _ at_ fun tk => by
    cases b with
    | true => exact h1 rfl _ _ (at_.tok tk) (fun ρ' σ' h tk' r a' st => Ex.after (s := s) (rest_ ρ' σ' r) a' st hR hV) fun v cv ρ' σ' h tk' r hv a' st => hV v cv ρ' σ' h tk' r hv a' st
    | false => exact h2 rfl _ _ (at_.tok tk) (fun ρ' σ' h tk' r a' st => Ex.after (s := s) (rest_ ρ' σ' r) a' st hR hV) fun v cv ρ' σ' h tk' r hv a' st => hV v cv ρ' σ' h tk' r hv a' st))
/-- an if whose test is false and that has no else -/
theorem Ex.skip {t : Expr} {a : List Stmt} {pos : Pos} (ht : TstK c ρ σ t fun b σ' => b = false ∧ Ex c rest ρ σ' R V) : Ex c (.If t a [] pos :: rest) ρ σ R V := fun s _ at_ hR hV =>
  wpAny_execs_cons (wpAny_If (ht _ s _ _ at_ fun b σ' h tk ⟨e, r⟩ a1 k1 => by
    subst e
    exact wpAny_execs_nil (Ex.after (s := s) r a1 k1.stay hR hV)))
theorem Ex.while {t : Expr} {body : List Stmt} {pos : Pos} (I : Nat → Loc → Led → Prop) (n₀ : Nat) (h0 : I n₀ ρ σ)
    (turn : ∀ n ρ' σ', I n ρ' σ' → ∃ b, Tst c ρ' σ' t b ∧ (b = true → Ex c body ρ' σ' (fun ρ₂ σ₂ => ∃ m, m < n ∧ I m ρ₂ σ₂) V) ∧ (b = false → Ex c rest ρ' σ' R V)) : Ex c (.While t body [] pos :: rest) ρ σ R V := fun s Q at_ hR hV => by
  refine wpAny_execs_cons (wpAny_While (codeAny_whileLoop (fun n s' => ∃ ρ' σ' h' tk', s' = { s with heap := h', toks := tk' } ∧ I n ρ' σ' ∧ At c ρ' σ' { s with heap := h', toks := tk' } ∧ Stay c σ σ' s.heap h') ?_ n₀ ⟨ρ, σ, s.heap, s.toks, rfl, h0, at_, .refl⟩))
  rintro n s' ⟨ρ', σ', h', tk', rfl, hI, a', st'⟩
  obtain ⟨b, ht, h1, h2⟩ := turn n ρ' σ' hI
  refine ht _ _ _ _ a' fun tk2 => ?_
  cases b with
  | false =>
    refine wpAny_execs_nil ?_
    exact Ex.after (s := s) (h2 rfl) (a'.tok tk2) st' hR hV
  | true =>
    refine wpAny_mono (h1 rfl _ (fun f s₃ => match f with
          | .next | .cont => ∃ m, m < n ∧ ∃ ρ' σ' h' tk', s₃ = { s with heap := h', toks := tk' } ∧ I m ρ' σ' ∧ At c ρ' σ' { s with heap := h', toks := tk' } ∧ Stay c σ σ' s.heap h'
          | .brk => False
          | .ret v => Q (.ret v) s₃) (a'.tok tk2) (fun ρ4 σ4 h4 tk4 inv a4 st4 => ?_) fun v cv ρ4 σ4 h4 tk4 r hcv a4 st4 => ?_) (fun f s₃ p => ?_) fun _ _ x => x.elim
    · obtain ⟨m, hm, hI2⟩ := inv
      exact ⟨m, hm, ρ4, σ4, h4, tk4, rfl, hI2, a4, st'.trans st4⟩
    · exact hV v cv ρ4 σ4 h4 tk4 r hcv a4 (st'.trans st4)
    · cases f with
      | next => exact p
      | cont => exact p
      | brk => exact p.elim
      | ret v => exact p
theorem lk_ne {ρ : Loc} {x y : Str} {v : AV} {r : Option AV} (h : ρ.lookup x = r) (hn : (x == y) = false := by decide) : ((y, v) :: ρ : Loc).lookup x = r := by rw [List.lookup_cons, hn]; exact h
theorem lk_eq {ρ : Loc} {x : Str} {v : AV} : ((x, v) :: ρ : Loc).lookup x = some v := by simp
end
end Mine.E
namespace Mine.E
/-- the places that a loop's iterator reads -/
structure Safe (c : Cx) (σ : Led) (h : Heap) (b : Addr) : Prop where
  is : ∃ o, h.get? b = some o
  l : b ≠ c.k.L
  m : b ≠ c.env.locals
  cells : ∀ x a, c.env.cells.lookup x = some a → b ≠ a
  led : ∀ p ∈ σ, p.1 ≠ b
section
variable {c : Cx} {ρ : Loc} {σ : Led} {R : Loc → Led → Prop} {V : AV → Led → Prop} {rest : List Stmt}
theorem Safe.stay {σ' : Led} {h h' : Heap} {b : Addr} (a : Safe c σ h b) (st : Stay c σ σ' h h') : Safe c σ' h' b where
  is := let ⟨o, ho⟩ := a.is; ⟨o, st.keep b o ho a.l a.m a.cells a.led⟩
  l := a.l
  m := a.m
  cells := a.cells
  led := fun p hp e => by
    rcases st.new p hp with ⟨q, hq, e2⟩ | e2
    · exact a.led q hq (e2.trans e)
    · obtain ⟨o, ho⟩ := a.is
      rw [e, ho] at e2; cases e2
theorem Safe.kept {σ' : Led} {h h' : Heap} {b : Addr} (a : Safe c σ h b) (st : Stay c σ σ' h h') : ∀ o, h.get? b = some o → h'.get? b = some o := fun o ho => st.keep b o ho a.l a.m a.cells a.led
/-- what a for goes over: n items, the i-th with P i -/
def Src (c : Cx) (ρ : Loc) (σ : Led) (it : Expr) (n : Nat) (P : Nat → AV → Prop) : Prop :=
  ∀ (s : Shared) (Q E : Value → Shared → Prop), At c ρ σ s →
    (∀ I fp St h tk, Walks PySem.Challenge.rw_xm0082_01.row.prog c.k.w c.A I fp [I] n (fun i v => ∃ a, P i a ∧ AV.of a v) St → St 0 h → At c ρ σ { s with heap := h, toks := tk } → Keep σ σ s.heap h → (∀ b ∈ fp, Safe c σ h b) → (∀ i h, St i h → ∃ o, h.get? I = some o) → s.heap.get? I = none → Q (.ref I) { s with heap := h, toks := tk }) →
    wpAny c.M c.A (eval it c.env) (fun xv s₁ => wpAny c.M c.A (pyIter xv) Q E s₁) E s
/-- the iterator moved, all else as it was -/
theorem At.but {s : Shared} {h' : Heap} {tk : Nat} {wr : List Addr} (at_ : At c ρ σ s) (sf : ∀ I ∈ wr, Safe c σ s.heap I ∧ c.k.h₀.get? I = none) (hk : ∀ b o, b ∉ wr → s.heap.get? b = some o → h'.get? b = some o) : At c ρ σ { s with heap := h', toks := tk } where
  ok := at_.ok
  fr := let ⟨m, F⟩ := at_.fr; ⟨m, F.ns.at' fun o e => hk _ o (fun hm => (sf _ hm).1.l rfl) e, fun b o e => hk b o (fun hm => by rw [(sf _ hm).2] at e; cases e) (F.keep b o e), F.above⟩
  ns := let ⟨m, hn⟩ := at_.ns; ⟨m, hn.at' fun o e => hk _ o (fun hm => (sf _ hm).1.m rfl) e⟩
  loc := fun x v hx => by
    obtain ⟨cv, hv, hw⟩ := at_.loc x v hx
    refine ⟨cv, hv, ?_⟩
    rcases hw with ⟨hk2, m2, hn2, hm2⟩ | ⟨hk2, a, hc, o, ho, hd⟩
    · exact .inl ⟨hk2, m2, hn2.at' fun o e => hk _ o (fun hm => (sf _ hm).1.m rfl) e, hm2⟩
    · exact .inr ⟨hk2, a, hc, o, hk a o (fun hm => (sf _ hm).1.cells x a hc rfl) ho, hd⟩
  cf := fun x a hc => by
    obtain ⟨h1, v, o, ho, hd⟩ := at_.cf x a hc
    exact ⟨h1, v, o, hk a o (fun hm => (sf _ hm).1.cells x a hc rfl) ho, hd⟩
  led := fun p hp => by
    obtain ⟨ho, r⟩ := at_.led p hp
    exact ⟨ho.mono fun ob hg => hk _ ob (fun hm => (sf _ hm).1.led p hp rfl) hg, r⟩
  nd := at_.nd
theorem stay_but {σ' : Led} {h₁ h h' : Heap} {wr : List Addr} (hk : ∀ b o, b ∉ wr → h.get? b = some o → h'.get? b = some o) (hn : ∀ I ∈ wr, h₁.get? I = none) (st : Stay c σ σ' h₁ h) : Stay c σ σ' h₁ h' where
  keep := fun b o' e h1 h2 h3 h4 => hk b o' (fun hb => by rw [hn b hb] at e; cases e) (st.keep b o' e h1 h2 h3 h4)
  new := st.new
  grow := fun b e => by
    by_cases hb : b ∈ wr
    · exact hn b hb
    · refine st.grow b ?_
      cases q : h.get? b with
      | none => rfl
      | some o' => rw [hk b o' hb q] at e; cases e
theorem Safe.item {h h' : Heap} {wr : List Addr} {b : Addr} (a : Safe c σ h b) (hk : ∀ b o, b ∉ wr → h.get? b = some o → h'.get? b = some o) (hI : ∀ I ∈ wr, ∃ o, h'.get? I = some o) : Safe c σ h' b where
  is := by
    by_cases e : b ∈ wr
    · exact hI b e
    · obtain ⟨o, ho⟩ := a.is
      exact ⟨o, hk b o e ho⟩
  l := a.l
  m := a.m
  cells := a.cells
  led := a.led
theorem At.fresh {s : Shared} (at_ : At c ρ σ s) {I : Addr} (h : s.heap.get? I = none) : c.k.h₀.get? I = none := by
  cases q : c.k.h₀.get? I with
  | none => rfl
  | some o => rw [at_.keep I o q] at h; cases h
/-- a for over any source: Inv holds before the i-th turn -/
theorem Ex.for {x : Str} {px pos : Pos} {it : Expr} {body : List Stmt} {n : Nat} {P : Nat → AV → Prop} (Inv : Nat → Loc → Led → Prop) (hs : Src c ρ σ it n P) (h0 : Inv 0 ρ σ)
    (turn : ∀ i a ρ' σ', i < n → P i a → Inv i ρ' σ' → Ex c body ((x, a) :: ρ') σ' (Inv (i + 1)) V) (done : ∀ ρ' σ', Inv n ρ' σ' → Ex c rest ρ' σ' R V) (hx : Sto c x := by exact Or.inl rfl)
    (hfs : ∀ v, foldedSetIterable it c.env v = pure v := by intro _; rfl) (hto : ∀ I v, letOwnedTupleGo (.Name x px) I v = pure () := by intro _ _; rfl) : Ex c (.For (.Name x px) it body [] pos :: rest) ρ σ R V := fun s Q at_ hR hV => by
  refine wpAny_execs_cons (wpAny_For (wpAny_mono (hs s _ _ at_ fun I fp St h tk W hst at1 st1 sf hex hnew => ?_) (fun _ _ x => x) fun _ _ e => e) hfs)
  have hI₀ : c.k.h₀.get? I = none := at_.fresh hnew
  have hIf : I ∈ fp := W.sub I (List.mem_singleton.mpr rfl)
  have wr1 : ∀ {σ' : Led} {h' : Heap}, Safe c σ' h' I → ∀ J ∈ [I], Safe c σ' h' J ∧ c.k.h₀.get? J = none := fun a J hJ => by rw [List.mem_singleton.mp hJ]; exact ⟨a, hI₀⟩
  refine codeAny_forLoop (fun k s' => ∃ i ρ' σ' h' tk', s' = { s with heap := h', toks := tk' } ∧ i ≤ n ∧ k = n + 1 - i ∧ Inv i ρ' σ' ∧ At c ρ' σ' { s with heap := h', toks := tk' } ∧ Stay c σ σ' s.heap h' ∧ St i h' ∧ (∀ b ∈ fp, Safe c σ' h' b)) ?_ (n + 1)
    ⟨0, ρ, σ, h, tk, rfl, Nat.zero_le _, rfl, h0, at1, st1.stay, hst, sf⟩ (hto _)
  rintro k s' ⟨i, ρ', σ', h', tk', rfl, hin, rfl, hInv, a', st', hst', sf'⟩
  by_cases hlt : i < n
  · refine W.item i _ _ _ hlt hst' fun v h2 tk2 hP hst2 hk2 => ?_
    obtain ⟨a, hPa, hv⟩ := hP
    have a2 : At c ρ' σ' { s with heap := h2, toks := tk2 } := a'.but (tk := tk2) (wr1 (sf' I hIf)) hk2
    have st2 : Stay c σ σ' s.heap h2 := stay_but hk2 (fun J hJ => by rw [List.mem_singleton.mp hJ]; exact hnew) st'
    have sf2 : ∀ b ∈ fp, Safe c σ' h2 b := fun b hb => (sf' b hb).item hk2 fun J hJ => by rw [List.mem_singleton.mp hJ]; exact hex _ _ hst2
    refine wpAny_assign_Name (store_any a2 hx hv fun h3 tk3 a3 st3 _ => ?_)
    refine wpAny_mono (turn i a ρ' σ' hlt hPa hInv _ (fun f s₃ => match f with
          | .next | .cont => ∃ m, m < n + 1 - i ∧ ∃ i ρ' σ' h' tk', s₃ = { s with heap := h', toks := tk' } ∧ i ≤ n ∧ m = n + 1 - i ∧ Inv i ρ' σ' ∧ At c ρ' σ' { s with heap := h', toks := tk' } ∧ Stay c σ σ' s.heap h' ∧ St i h' ∧ (∀ b ∈ fp, Safe c σ' h' b)
          | .brk => False
          | .ret v => Q (.ret v) s₃) a3 (fun ρ4 σ4 h4 tk4 inv a4 st4 => ?_) fun v cv ρ4 σ4 h4 tk4 r hcv a4 st4 => ?_) (fun f s₃ p => ?_) fun _ _ x => x.elim
    · exact ⟨n + 1 - (i + 1), by omega, i + 1, ρ4, σ4, h4, tk4, rfl, hlt, rfl, inv, a4, (st2.trans st3).trans st4, W.frame _ _ _ hst2 fun b hb o e => ((sf2 b hb).stay st3).kept st4 o ((sf2 b hb).kept st3 o e), fun b hb => ((sf2 b hb).stay st3).stay st4⟩
    · exact hV v cv ρ4 σ4 h4 tk4 r hcv a4 ((st2.trans st3).trans st4)
    · cases f with
      | next => exact p
      | cont => exact p
      | brk => exact p.elim
      | ret v => exact p
  · obtain rfl : i = n := Nat.le_antisymm hin (Nat.not_lt.mp hlt)
    refine W.done _ _ _ hst' fun h2 tk2 hk2 => ?_
    refine wpAny_execs_nil ?_
    exact Ex.after (s := s) (done ρ' σ' hInv) (a'.but (tk := tk2) (wr1 (sf' I hIf)) hk2) (stay_but hk2 (fun J hJ => by rw [List.mem_singleton.mp hJ]; exact hnew) st') hR hV
/-- a new place is safe -/
theorem Safe.fresh {s : Shared} (at_ : At c ρ σ s) {h' : Heap} {I : Addr} (hI : s.heap.get? I = none) (hI' : ∃ o, h'.get? I = some o) : Safe c σ h' I where
  is := hI'
  l := fun e => by
    obtain ⟨m, F⟩ := at_.fr
    obtain ⟨o, ho⟩ := ns_is F.ns
    rw [← e, hI] at ho; cases ho
  m := fun e => by
    obtain ⟨m, hn⟩ := at_.ns
    obtain ⟨o, ho⟩ := ns_is hn
    rw [← e, hI] at ho; cases ho
  cells := fun x a hc e => by
    obtain ⟨_, v, o, ho, _⟩ := at_.cf x a hc
    rw [← e, hI] at ho; cases ho
  led := at_.off (.inr (.inr (.inr (.inr hI))))
/-- a place of the heap below is safe -/
theorem Safe.below {s : Shared} (at_ : At c ρ σ s) {b : Addr} {o : Obj} {h' : Heap} (hb : c.k.h₀.get? b = some o) (hk : ∀ b o, s.heap.get? b = some o → h'.get? b = some o) : Safe c σ h' b where
  is := ⟨o, hk _ _ (at_.keep _ _ hb)⟩
  l := fun e => by
    obtain ⟨m, F⟩ := at_.fr
    exact Nat.lt_irrefl _ (Nat.lt_of_lt_of_le (e ▸ Heap.lt_size hb) F.above)
  m := fun e => by
    obtain ⟨m, F⟩ := at_.fr
    rcases at_.ok.hl with h1 | ⟨h1, h2⟩
    · exact Nat.lt_irrefl _ (Nat.lt_of_lt_of_le ((e.trans h1) ▸ Heap.lt_size hb) F.above)
    · rw [← e, hb] at h2; cases h2
  cells := fun x a hc e => by
    have := (at_.cf x a hc).1
    rw [← e, hb] at this; cases this
  led := at_.off (.inl ⟨o, hb⟩)
theorem walks_map {prog : Program} {w : World} {A : Around} {I : Addr} {fp wr : List Addr} {n : Nat} {P P' : Nat → Value → Prop} {St : Nat → Heap → Prop} (W : Walks prog w A I fp wr n P St) (hp : ∀ i v, P i v → P' i v) : Walks prog w A I fp wr n P' St :=
  { sub := W.sub, frame := W.frame, done := W.done, self := W.self, item := fun i s Q E hi st hQ => W.item i s Q E hi st fun v h' tk hv => hQ v h' tk (hp i v hv) }
/-- an iterator that was made anew, over what stands below or was made since -/
theorem src_end {s : Shared} {Q : Value → Shared → Prop} {h' : Heap} {tk tk₀ : Nat} {I : Addr} {fp : List Addr} {n : Nat} {P : Nat → AV → Prop} {P' : Nat → Value → Prop} {St : Nat → Heap → Prop} (at_ : At c ρ σ { s with toks := tk₀ }) (hk : ∀ b o, s.heap.get? b = some o → h'.get? b = some o)
    (W : Walks PySem.Challenge.rw_xm0082_01.row.prog c.k.w c.A I fp [I] n P' St) (hp : ∀ i v, P' i v → ∃ a, P i a ∧ AV.of a v) (hst : St 0 h') (hfp : ∀ b ∈ fp, s.heap.get? b = none ∨ ∃ o, c.k.h₀.get? b = some o) (hfe : ∀ b ∈ fp, ∃ o, h'.get? b = some o) (hex : ∀ i h, St i h → ∃ o, h.get? I = some o) (hnew : s.heap.get? I = none)
    (k : ∀ I fp St h tk, Walks PySem.Challenge.rw_xm0082_01.row.prog c.k.w c.A I fp [I] n (fun i v => ∃ a, P i a ∧ AV.of a v) St → St 0 h → At c ρ σ { s with heap := h, toks := tk } → Keep σ σ s.heap h → (∀ b ∈ fp, Safe c σ h b) → (∀ i h, St i h → ∃ o, h.get? I = some o) → s.heap.get? I = none → Q (.ref I) { s with heap := h, toks := tk }) : Q (.ref I) { s with heap := h', toks := tk } :=
  k I fp St h' tk (walks_map W hp) hst (at_.keeps (tk := tk) hk) (Keep.of hk) (fun b hb => (hfp b hb).elim (fun e => Safe.fresh at_ e (hfe b hb)) fun ⟨_, e⟩ => Safe.below at_ e hk) hex hnew
theorem src_push {s : Shared} {Q E : Value → Shared → Prop} {a b d : Int} {n : Nat} {t u v : Tok} {tk : Nat} (at_ : At c ρ σ s) (hsm : Builtin.Range.small a b d = true) (hn : Builtin.Range.rangeSize a b d = ((n : Nat) : Int))
    (k : ∀ I fp St h tk, Walks PySem.Challenge.rw_xm0082_01.row.prog c.k.w c.A I fp [I] n (fun i v => ∃ x, x = AV.int (a + (i : Int) * d) ∧ AV.of x v) St → St 0 h → At c ρ σ { s with heap := h, toks := tk } → Keep σ σ s.heap h → (∀ b ∈ fp, Safe c σ h b) → (∀ i h, St i h → ∃ o, h.get? I = some o) → s.heap.get? I = none → Q (.ref I) { s with heap := h, toks := tk }) :
    wpAny c.M c.A (pyIter (.ref s.heap.objs.size)) Q E { s with heap := s.heap.push { cls := .type "range", data := .fields #[.int a t, .int b u, .int d v] }, toks := tk } := by
  refine wpAny_pyIter_range (IsRange.new s.heap a b d t u v) hsm ?_
  generalize hH : s.heap.push { cls := .type "range", data := .fields #[.int a t, .int b u, .int d v] } = H
  have up : ∀ b' o, s.heap.get? b' = some o → H.get? b' = some o := fun b' o e => hH ▸ get_push b' o e
  have hI : (H.push { cls := .type "range_iterator", data := .fields #[rawInt a, rawInt (Builtin.Range.rangeSize a b d), rawInt d] }).get? H.objs.size = some _ := Heap.get?_push_size _ rfl
  have hnew : s.heap.get? H.objs.size = none := by
    cases q : s.heap.get? H.objs.size with
    | none => rfl
    | some o => exact absurd (Heap.lt_size (up _ _ q)) (Nat.lt_irrefl _)
  refine src_end (s := s) (P := fun (i : Nat) x => x = AV.int (a + (i : Int) * d)) (tk₀ := s.toks) at_ (fun b' o e => get_push b' o (up b' o e)) (Walks.range rfl H.objs.size a d n) (fun i v ⟨t, e⟩ => ⟨.int (a + (i : Int) * d), rfl, t, e⟩) ?_ (fun b' hb => .inl ?_) (fun b' hb => ?_) (fun i h st => ⟨_, st⟩) hnew k
  · show _ = some _
    rw [hI, hn]; simp
  · rw [List.mem_singleton.mp hb]; exact hnew
  · rw [List.mem_singleton.mp hb]; exact ⟨_, hI⟩
/-- a call of a type, of a builtin -/
theorem call_type {x : Str} {T : String} {p pos : Pos} {e : Expr} {es : List Expr} {K : List AV → Led → Prop} {s : Shared} {Q E : Value → Shared → Prop} (hg : Glo c ρ σ x (.type T)) (ha : EvKs c ρ σ (e :: es) K) (at_ : At c ρ σ s)
    (h : ∀ as vs σ' h' tk, K as σ' → AVs as vs → At c ρ σ' { s with heap := h', toks := tk } → Keep σ σ' s.heap h' → wpAny c.M c.A (call (.type T) vs) Q E { s with heap := h', toks := tk })
    (he : starEach (e :: es) c.env = (false, eval e c.env) :: starEach es c.env) (hp : (backTo pos (starEach es c.env)).any (·.1) = false) : wpAny c.M c.A (eval (.Call (.Name x p) (e :: es) [] pos) c.env) Q E s :=
  Call_Name rfl (hg s _ _ _ at_ (Pv.callWith_type1 (ha _ _ _ pos at_ fun as vs σ' h' tk hK hvs a1 st1 => h as vs σ' h' tk hK hvs a1 st1) he hp))
theorem call_builtin {x : Str} {T : String} {p pos : Pos} {e : Expr} {es : List Expr} {K : List AV → Led → Prop} {s : Shared} {Q E : Value → Shared → Prop} (hg : Glo c ρ σ x (.builtin T)) (ha : EvKs c ρ σ (e :: es) K) (at_ : At c ρ σ s)
    (h : ∀ as vs σ' h' tk, K as σ' → AVs as vs → At c ρ σ' { s with heap := h', toks := tk } → Keep σ σ' s.heap h' → wpAny c.M c.A (call (.builtin T) vs) Q E { s with heap := h', toks := tk })
    (he : starEach (e :: es) c.env = (false, eval e c.env) :: starEach es c.env) (hp : (backTo pos (starEach es c.env)).any (·.1) = false) : wpAny c.M c.A (eval (.Call (.Name x p) (e :: es) [] pos) c.env) Q E s :=
  Call_Name rfl (hg s _ _ _ at_ (by
    rw [he]
    exact PySem.Calls.callWith_builtin (by show (false || (backTo pos (starEach es c.env)).any (·.1)) = false; rw [hp]; rfl) (PySem.Calls.evalArgs_plain (he ▸ ha _ _ _ pos at_ fun as vs σ' h' tk hK hvs a1 st1 => h as vs σ' h' tk hK hvs a1 st1 : wpAny c.M c.A (spliced (backTo pos ((false, eval e c.env) :: starEach es c.env))) _ E s))))
theorem Src.range {p pos : Pos} {e : Expr} {es : List Expr} {a b d : Int} {n : Nat} (hg : Glo c ρ σ (Str.ofString "range") (.type "range")) (ha : EvKs c ρ σ (e :: es) fun as σ' => σ' = σ ∧ ((as = [.int b] ∧ a = 0 ∧ d = 1) ∨ (as = [.int a, .int b] ∧ d = 1) ∨ (as = [.int a, .int b, .int d] ∧ d = -1)))
    (hsm : Builtin.Range.small a b d = true) (hn : Builtin.Range.rangeSize a b d = ((n : Nat) : Int))
    (he : starEach (e :: es) c.env = (false, eval e c.env) :: starEach es c.env := by rfl) (hp : (backTo pos (starEach es c.env)).any (·.1) = false := by rfl) : Src c ρ σ (.Call (.Name (Str.ofString "range") p) (e :: es) [] pos) n (fun i x => x = .int (a + (i : Int) * d)) := fun s Q E at_ h =>
  call_type hg ha at_ (fun as vs σ' h1 tk hK hvs a1 k1 => by
    obtain ⟨rfl, hK⟩ := hK
    have h2 : ∀ I fp St h tk', Walks PySem.Challenge.rw_xm0082_01.row.prog c.k.w c.A I fp [I] n (fun i v => ∃ x, x = AV.int (a + (i : Int) * d) ∧ AV.of x v) St → St 0 h → At c ρ σ' { s with heap := h, toks := tk' } → Keep σ' σ' h1 h → (∀ b ∈ fp, Safe c σ' h b) → (∀ i h, St i h → ∃ o, h.get? I = some o) → h1.get? I = none → Q (.ref I) { s with heap := h, toks := tk' } := fun I fp St h3 tk' W q1 q2 q3 q4 q5 q6 =>
      h I fp St h3 tk' W q1 q2 (k1.trans q3) q4 q5 (k1.grow _ q6)
    rcases hK with ⟨rfl, rfl, rfl⟩ | ⟨rfl, rfl⟩ | ⟨rfl, rfl⟩
    · obtain ⟨_, rfl, t, rfl⟩ := avs_one hvs
      exact call_range_1 (src_push (s := { s with heap := h1, toks := tk }) a1 hsm hn h2)
    · obtain ⟨_, _, rfl, ⟨t, rfl⟩, u, rfl⟩ := avs_two hvs
      exact call_range_2 (src_push (s := { s with heap := h1, toks := tk }) a1 hsm hn h2)
    · obtain ⟨_, _, _, rfl, ⟨t, rfl⟩, ⟨u, rfl⟩, v, rfl⟩ := avs_three hvs
      exact call_range_3 (by decide) (src_push (s := { s with heap := h1, toks := tk }) a1 hsm hn h2) (Or.inl (PyProof.noPylong_small (by decide)))) he hp
/-- a for over a list of the heap below -/
theorem Src.lst {e : Expr} {a : Addr} {l : List AV} (he : Ev c ρ σ e (.ref a)) (hr : Has c.k.h₀ a (.lst l)) : Src c ρ σ e l.length (fun i x => l[i]? = some x) := fun s Q E at_ h =>
  he s _ _ at_ fun cv tk e1 => by
    cases e1
    obtain ⟨ob, ⟨hc, vs, n, hd, hi⟩, hg⟩ := hr
    have hgs := at_.keep _ _ hg
    have hls : s.heap.IsList a vs.toArray := ⟨_, hgs, hc, _, hd⟩
    refine wpAny_pyIter_list hls ?_
    have hne : a ≠ s.heap.objs.size := Nat.ne_of_lt (Heap.lt_size hgs)
    have hII : (s.heap.push { cls := .type "list_iterator", data := .fields #[.ref a, .int 0 0] }).get? s.heap.objs.size = some _ := Heap.get?_push_size _ rfl
    have hsz : vs.toArray.size = l.length := by rw [List.size_toArray, hi.length]
    refine src_end (at_.tok tk) get_push (hsz ▸ Walks.list rfl s.heap.objs.size a hne vs.toArray) (fun i v hv => ?_) ⟨⟨_, hII, rfl, rfl⟩, hls.push _⟩ (fun b hb => ?_) (fun b hb => ?_) (fun i h st => let ⟨o, ho, _⟩ := st.1; ⟨o, ho⟩) get_next h
    · exact hi.at_ i v (by simpa using hv)
    · rcases List.mem_cons.mp hb with rfl | hb
      · exact .inl get_next
      · rw [List.mem_singleton.mp hb]; exact .inr ⟨_, hg⟩
    · rcases List.mem_cons.mp hb with rfl | hb
      · exact ⟨_, hII⟩
      · rw [List.mem_singleton.mp hb]; exact ⟨_, get_push _ _ hgs⟩
theorem Src.mono {it : Expr} {n : Nat} {P P' : Nat → AV → Prop} (h : Src c ρ σ it n P) (hp : ∀ i a, P i a → P' i a) : Src c ρ σ it n P' := fun s Q E at_ k => h s Q E at_ fun I fp St h tk W => k I fp St h tk (walks_map W fun i _ ⟨a, h1, h2⟩ => ⟨a, hp i a h1, h2⟩)
theorem Src.base {e : Expr} {a : Addr} {l : List Int} (he : Ev c ρ σ e (.ref a)) (hr : Has c.k.h₀ a (.ints l)) : Src c ρ σ e l.length (fun i x => ∃ n, l[i]? = some n ∧ x = .int n) := by
  have := (Src.lst he hr.lst).mono (P' := fun i x => ∃ n, l[i]? = some n ∧ x = .int n) fun i x h => by
    rw [List.getElem?_map, Option.map_eq_some_iff] at h
    obtain ⟨n, h1, h2⟩ := h
    exact ⟨n, h1, h2.symm⟩
  rwa [List.length_map] at this
theorem Src.revL {p pos : Pos} {e : Expr} {a : Addr} {l : List AV} (hgl : Glo c ρ σ (Str.ofString "reversed") (.type "reversed")) (he : Ev c ρ σ e (.ref a)) (hr : Has c.k.h₀ a (.lst l))
    (hs : starEach [e] c.env = [(false, eval e c.env)] := by rfl) : Src c ρ σ (.Call (.Name (Str.ofString "reversed") p) [e] [] pos) l.length (fun i x => l.reverse[i]? = some x) := fun s Q E at_ h =>
  Call_Name1 (hgl s _ _ _ at_ (PySem.callWith_type1 (he s _ _ at_ fun cv tk e1 => by
    cases e1
    obtain ⟨ob, ⟨hc, vs, n, hd, hi⟩, hg⟩ := hr
    have hgs := at_.keep _ _ hg
    have hls : s.heap.IsList a vs.toArray := ⟨_, hgs, hc, _, hd⟩
    refine call_reversed_list hls ?_
    have hne : a ≠ s.heap.objs.size := Nat.ne_of_lt (Heap.lt_size hgs)
    have e9 : ((vs.toArray.size : Nat) : Int) - 1 = (vs.length : Int) - 1 := by simp
    rw [e9]
    have hII : (s.heap.push (revObj a ((vs.length : Int) - 1))).get? s.heap.objs.size = some _ := Heap.get?_push_size _ rfl
    have hrv : (s.heap.push (revObj a ((vs.length : Int) - 1))).IsRevIter s.heap.objs.size a ((vs.length : Int) - 1) := ⟨_, hII, rfl, rfl⟩
    refine wpAny_pyIter_revIter hrv ?_
    have hsz : vs.toArray.size = l.length := by rw [List.size_toArray, hi.length]
    refine src_end (at_.tok tk) get_push (hsz ▸ (Walks.listRev rfl s.heap.objs.size a hne vs.toArray).bound) (fun i v hv => ?_) ⟨Nat.zero_le _, by have hl := hi.length; simpa [hl] using hrv, hls.push _⟩ (fun b hb => ?_) (fun b hb => ?_) (fun i h st => let ⟨o, ho, _⟩ := st.2.1; ⟨o, ho⟩) get_next h
    · obtain ⟨hlt, hv⟩ := hv
      have hl := hi.length
      obtain ⟨k, hk, e⟩ := hi.at_ (vs.length - 1 - i) v (by simpa [hl] using hv)
      exact ⟨k, by rw [List.getElem?_reverse hlt, ← hl]; exact hk, e⟩
    · rcases List.mem_cons.mp hb with rfl | hb
      · exact .inl get_next
      · rw [List.mem_singleton.mp hb]; exact .inr ⟨_, hg⟩
    · rcases List.mem_cons.mp hb with rfl | hb
      · exact ⟨_, hII⟩
      · rw [List.mem_singleton.mp hb]; exact ⟨_, get_push _ _ hgs⟩))) hs
theorem Src.rev {p pos : Pos} {e : Expr} {a : Addr} {l : List Int} (hgl : Glo c ρ σ (Str.ofString "reversed") (.type "reversed")) (he : Ev c ρ σ e (.ref a)) (hr : Has c.k.h₀ a (.ints l))
    (hs : starEach [e] c.env = [(false, eval e c.env)] := by rfl) : Src c ρ σ (.Call (.Name (Str.ofString "reversed") p) [e] [] pos) l.length (fun i x => ∃ n, l.reverse[i]? = some n ∧ x = .int n) := by
  have := (Src.revL (p := p) (pos := pos) hgl he hr.lst hs).mono (P' := fun i x => ∃ n, l.reverse[i]? = some n ∧ x = .int n) fun i x h => by
    rw [← List.map_reverse, List.getElem?_map, Option.map_eq_some_iff] at h
    obtain ⟨n, h1, h2⟩ := h
    exact ⟨n, h1, h2.symm⟩
  rwa [List.length_map] at this
end
end Mine.E
namespace Mine.E
section
variable {c : Cx} {ρ : Loc} {σ : Led} {R : Loc → Led → Prop} {V : AV → Led → Prop} {rest : List Stmt} {K : AV → Led → Prop}
theorem size_of {n : Nat} (h : n < 1000000) : n ≤ sizeLine := by rw [sizeLine_eq]; omega
theorem newList_any {s : Shared} {Q E : Value → Shared → Prop} {vs : List Value} {o : AO} (at_ : At c ρ σ s) (ho : o.of { cls := .type "list", dict := none, data := .seq vs.toArray }) (hsz : vs.length < 1000000)
    (h : ∀ D h tk, At c ρ ((D, o) :: σ) { s with heap := h, toks := tk } → Keep σ ((D, o) :: σ) s.heap h → Q (.ref D) { s with heap := h, toks := tk }) : wpAny c.M c.A (newList vs) Q E s :=
  wpAny_newObj_type (h _ _ s.toks (at_.alloc get_push get_next ⟨_, ho, Heap.get?_push_size _ rfl⟩) (Keep.alloc get_push get_next)) (by show vs.toArray.size ≤ sizeLine; rw [List.size_toArray]; exact size_of hsz)
theorem newTuple_any {s : Shared} {Q E : Value → Shared → Prop} {vs : List Value} {o : AO} (at_ : At c ρ σ s) (ho : o.of { cls := .type "tuple", dict := none, data := .seq vs.toArray }) (hsz : vs.length < 1000000)
    (h : ∀ D h tk, At c ρ ((D, o) :: σ) { s with heap := h, toks := tk } → Keep σ ((D, o) :: σ) s.heap h → Q (.ref D) { s with heap := h, toks := tk }) : wpAny c.M c.A (newTuple vs) Q E s :=
  wpAny_newObj_type (h _ _ s.toks (at_.alloc get_push get_next ⟨_, ho, Heap.get?_push_size _ rfl⟩) (Keep.alloc get_push get_next)) (by show vs.toArray.size ≤ sizeLine; rw [List.size_toArray]; exact size_of hsz)
/-- a list display of ints -/
theorem EvK.list {es : List Expr} {pos : Pos} (ha : EvKs c ρ σ es fun as σ' => ∃ xs : List Int, as = xs.map AV.int ∧ xs.length < 1000000 ∧ ∀ D, K (.ref D) ((D, .ints xs) :: σ')) : EvK c ρ σ (.List es pos) K := fun s Q E at_ h =>
  List_ (ha s _ _ pos at_ fun as vs σ' h1 tk ⟨xs, e, hsz, hK⟩ hv a1 k1 => by
    subst e
    exact newList_any (o := .ints xs) a1 ⟨rfl, vs, _, rfl, hv.ints⟩ (by rw [hv.length, List.length_map]; exact hsz) fun D h2 tk2 a2 k2 => h _ _ _ h2 tk2 (hK D) rfl a2 (k1.trans k2))
/-- a list display, a tuple display -/
theorem EvK.lst {es : List Expr} {pos : Pos} (ha : EvKs c ρ σ es fun as σ' => as.length < 1000000 ∧ ∀ D, K (.ref D) ((D, .lst as) :: σ')) : EvK c ρ σ (.List es pos) K := fun s Q E at_ h =>
  List_ (ha s _ _ pos at_ fun as vs σ' h1 tk ⟨hsz, hK⟩ hv a1 k1 => newList_any (o := .lst as) a1 ⟨rfl, vs, _, rfl, hv⟩ (by rw [hv.length]; exact hsz) fun D h2 tk2 a2 k2 => h _ _ _ h2 tk2 (hK D) rfl a2 (k1.trans k2))
theorem EvK.tup {es : List Expr} {k : Nat} {pos : Pos} (ha : EvKs c ρ σ es fun as σ' => as.length < 1000000 ∧ ∀ D, K (.ref D) ((D, .tup as) :: σ')) : EvK c ρ σ (.Tuple es k pos) K := fun s Q E at_ h =>
  Tuple_ (ha s _ _ pos at_ fun as vs σ' h1 tk ⟨hsz, hK⟩ hv a1 k1 => newTuple_any (o := .tup as) a1 ⟨rfl, vs, _, rfl, hv⟩ (by rw [hv.length]; exact hsz) fun D h2 tk2 a2 k2 => h _ _ _ h2 tk2 (hK D) rfl a2 (k1.trans k2))
theorem Ev.len {p pos : Pos} {e : Expr} {a : Addr} {l : List Int} (hg : Glo c ρ σ (Str.ofString "len") (.builtin "len")) (he : Ev c ρ σ e (.ref a)) (hr : Rd c σ a (.ints l)) (hfit : l.length < 1000000)
    (hs : starEach [e] c.env = [(false, eval e c.env)] := by rfl) : Ev c ρ σ (.Call (.Name (Str.ofString "len") p) [e] [] pos) (.int l.length) := fun s Q E at_ h =>
  Call_Name1 (hg s _ _ _ at_ (PySem.callWith_builtin1 (he s _ _ at_ fun cv tk e1 => by
    cases e1
    obtain ⟨vs, hl, hi⟩ := (hr.has (at_.tok tk)).list
    have hl9 := hi.length
    refine len_list hl (by rw [List.size_toArray, hl9]; omega) ?_
    rw [List.size_toArray, hl9]
    exact h _ _ ⟨_, rfl⟩))) hs
theorem Ev.abs {p pos : Pos} {e : Expr} {x : Int} (hg : Glo c ρ σ (Str.ofString "abs") (.builtin "abs")) (he : Ev c ρ σ e (.int x)) (hs : starEach [e] c.env = [(false, eval e c.env)] := by rfl) : Ev c ρ σ (.Call (.Name (Str.ofString "abs") p) [e] [] pos) (.int (x.natAbs : Int)) := fun s Q E at_ h =>
  Call_Name1 (hg s _ _ _ at_ (PySem.callWith_builtin1 (he s _ _ at_ fun cv tk ⟨t, e1⟩ => by
    subst e1
    refine call_abs_int fun u tk2 => ?_
    have : (if x < 0 then -x else x) = (x.natAbs : Int) := by split <;> omega
    rw [this]
    exact h _ _ ⟨_, rfl⟩))) hs
theorem EvK.max {p pos : Pos} {e e2 : Expr} (hg : Glo c ρ σ (Str.ofString "max") (.builtin "max")) (ha : EvKs c ρ σ [e, e2] fun as σ' => ∃ x y : Int, as = [.int x, .int y] ∧ K (.int (if y > x then y else x)) σ')
    (he : starEach [e, e2] c.env = (false, eval e c.env) :: starEach [e2] c.env := by rfl) (hp : (backTo pos (starEach [e2] c.env)).any (·.1) = false := by rfl) : EvK c ρ σ (.Call (.Name (Str.ofString "max") p) [e, e2] [] pos) K := fun s Q E at_ h =>
  call_builtin hg ha at_ (fun as vs σ' h1 tk ⟨x, y, e, hK⟩ hv a1 k1 => by
    subst e
    obtain ⟨_, _, rfl, ⟨t, rfl⟩, u, rfl⟩ := avs_two hv
    refine max_two_ints rfl fun h2 tk2 hk => ?_
    have : (if y > x then Value.int y u else .int x t) = .int (if y > x then y else x) (if y > x then u else t) := by split <;> rfl
    rw [this]
    exact h _ _ σ' h2 tk2 hK ⟨_, rfl⟩ (a1.keeps (tk := tk2) hk) (k1.trans (Keep.of hk))) he hp
theorem EvK.copy {p pos : Pos} {e : Expr} (hg : Glo c ρ σ (Str.ofString "list") (.type "list")) (ha : EvKs c ρ σ [e] fun as σ' => ∃ a l, as = [.ref a] ∧ Rd c σ' a (.ints l) ∧ l.length < 1000000 ∧ ∀ D, K (.ref D) ((D, .ints l) :: σ'))
    (he : starEach [e] c.env = (false, eval e c.env) :: starEach [] c.env := by rfl) : EvK c ρ σ (.Call (.Name (Str.ofString "list") p) [e] [] pos) K := fun s Q E at_ h =>
  call_type hg ha at_ (fun as vs σ' h1 tk ⟨a, l, e, hr, hsz, hK⟩ hv a1 k1 => by
    subst e
    obtain ⟨_, rfl, rfl⟩ := avs_one hv
    obtain ⟨ob, ⟨hc, vs, n, hd, hi⟩, hg⟩ := hr.has a1
    refine call_list_seq (s := { s with heap := h1, toks := tk }) (hsz := by rw [List.size_toArray, hi.length]; exact size_of hsz) a (.inl rfl) hg hc hd fun h2 c2 hk hD => ?_
    have hh : Has h2 h1.objs.size (.ints l) := ⟨_, ⟨rfl, vs, c2, rfl, hi⟩, hD⟩
    exact h _ _ _ h2 tk (hK _) rfl (a1.alloc (s := { s with heap := h1, toks := tk }) hk get_next hh) (k1.trans (Keep.alloc hk get_next))) he rfl
/-- xs[:k] -/
theorem EvK.upto {e u : Expr} {p pos : Pos} {a : Addr} {l : List Int} {k : Int} (he : Ev c ρ σ e (.ref a)) (hu : Ev c ρ σ u (.int k)) (hr : Rd c σ a (.ints l)) (hfit : l.length < 1000000) (h0 : 0 ≤ k) (hK : ∀ D, K (.ref D) ((D, .ints (l.take k.toNat)) :: σ))
    (hs : ∀ b : Addr, subscripted (.Slice none (some u) none p) false (.ref a) (.ref b) = operate [.ref b, .ref a] (getItem (.ref a) (.ref b)) := by intro _; with_unfolding_all rfl) (ht : ∀ r, letTemporaryGo e (.ref a) r = Pure.pure () := by intro _; with_unfolding_all rfl) :
    EvK c ρ σ (.Subscript e (.Slice none (some u) none p) pos) K := fun s Q E at_ h =>
  Subscript_ (he s _ _ at_ fun cv tk e1 => by
    cases e1
    refine wpAny_Slice (wpAny_pure (hu _ _ _ (at_.tok tk) fun cv tk2 ⟨t, e2⟩ => wpAny_pure ?_))
    subst e2
    obtain ⟨vs, hl, hi⟩ := (hr.has (at_.tok tk2)).list
    refine slice_listK hl .none (.int k t) ?_ (hs _) ht (by rw [List.size_toArray, hi.length]; exact size_of hfit)
    have hv : IntsAre (slicePick vs.toArray none (some k) none).toList (l.take k.toNat) := slice_ints_uptoW hi h0
    have up : ∀ b o, s.heap.get? b = some o → ((s.heap.push { cls := .type "slice", data := .fields #[.none, .int k t, .none] }).push { cls := .type "list", data := .seq (slicePick vs.toArray none (some k) none) }).get? b = some o := fun b o e => get_push _ _ (get_push _ _ e)
    have hn : s.heap.get? (s.heap.objs.size + 1) = none := Heap.get?_none_of_le (Nat.le_succ _)
    have hh : Has ((s.heap.push { cls := .type "slice", data := .fields #[.none, .int k t, .none] }).push { cls := .type "list", data := .seq (slicePick vs.toArray none (some k) none) }) (s.heap.objs.size + 1) (.ints (l.take k.toNat)) :=
      ⟨_, ⟨rfl, _, _, rfl, hv⟩, by
        have := Heap.get?_push_size (s.heap.push { cls := .type "slice", data := .fields #[.none, .int k t, .none] }) (o := { cls := .type "list", data := .seq (slicePick vs.toArray none (some k) none) }) rfl
        rw [Heap.size_push] at this
        simpa using this⟩
    exact h _ _ _ _ tk2 (hK _) rfl (at_.alloc (tk := tk2) up hn hh) (Keep.alloc up hn))
/-- xs[-1] -/
theorem Ev.last {e : Expr} {pos p1 p2 : Pos} {kk : Nat} {a : Addr} {l : List Int} (he : Ev c ρ σ e (.ref a)) (hr : Rd c σ a (.ints l)) (hne : 0 < l.length) (hfit : l.length < 1000000)
    (hs : ∀ u : Tok, subscripted (.UnaryOp .USub (.Constant (.int 1) kk p1) p2) false (.ref a) (.int (-1) u) = operate [.ref a, .int (-1) u] (getItem (.ref a) (.int (-1) u)) := by intro _; with_unfolding_all rfl) (hg : ∀ r, letTemporaryGo e (.ref a) r = Pure.pure () := by intro _; with_unfolding_all rfl) :
    Ev c ρ σ (.Subscript e (.UnaryOp .USub (.Constant (.int 1) kk p1) p2) pos) (.int (l.getD (l.length - 1) 0)) := fun s Q E at_ h =>
  Subscript_ (he s _ _ at_ fun cv tk e1 => by
    cases e1
    exact (Ev.neg Ev.const) _ _ _ (at_.tok tk) fun cv tk2 ⟨u, e2⟩ => by
      subst e2
      obtain ⟨vs, hl, hv⟩ := (hr.has (at_.tok tk2)).list
      have hlen := hv.length
      obtain ⟨t, hx⟩ := hv.get (l.length - 1) _ (show l[l.length - 1]? = some (l.getD (l.length - 1) 0) by rw [List.getD_eq_getElem?_getD, List.getElem?_eq_getElem (by omega)]; rfl)
      exact subscriptTail_builtin hl.typeIs slot_list_getitem.lookup (wpAny_getItem_list_neg hl (by decide) (by rw [List.size_toArray]; omega) (by decide) (by rw [List.size_toArray, hlen, show (-1 + (l.length : Int)).toNat = l.length - 1 by omega]; simpa using hx) (h _ _ ⟨_, rfl⟩)) (hs u) hg)
theorem EvK.addL {a b : Expr} {pos : Pos} (ha : EvK c ρ σ a fun x σ₁ => ∃ D1, x = .ref D1 ∧ EvK c ρ σ₁ b fun y σ₂ => ∃ D2 l1 l2, y = .ref D2 ∧ Rd c σ₂ D1 (.ints l1) ∧ Rd c σ₂ D2 (.ints l2) ∧ l1.length + l2.length < 1000000 ∧ ∀ D, K (.ref D) ((D, .ints (l1 ++ l2)) :: σ₂)) : EvK c ρ σ (.BinOp a .Add b pos) K := fun s Q E at_ k =>
  wpAny_BinOp (ha s _ _ at_ fun v cv σ₁ h tk ⟨D1, e, hb⟩ hv a1 k1 => by
    subst e; cases hv
    exact hb _ _ _ a1 fun v2 cv2 σ₂ h2 tk2 ⟨D2, l1, l2, e2, r1, r2, hsz, hK⟩ hv2 a2 k2 => by
      subst e2; cases hv2
      obtain ⟨⟨cls, dd, data, sl⟩, ⟨hc, vs, n, hd, hi⟩, ho⟩ := r1.has a2
      obtain ⟨⟨cls2, dd2, data2, sl2⟩, ⟨hc2, ws, n2, hd2, hj⟩, ho2⟩ := r2.has a2
      simp only at hc hd hc2 hd2
      subst hc hd hc2 hd2
      have e : vs.toArray ++ ws.toArray = (vs ++ ws).toArray := by simp
      refine concat_meets ⟨_, ho, rfl⟩ ⟨_, ho2, rfl⟩ noFill_list_add seq_list_add PySem.F.slot_list_add PySem.F.entry_list_add (PySem.F.args_list_add_2 _ _) (list_addW D1 D2 vs.toArray ws.toArray n n2 dd dd2 sl sl2 (by simp only [List.size_toArray]; rw [hi.length, hj.length]; exact size_of hsz)) ⟨ho, ho2, ?_⟩
      rw [e]
      exact k _ _ _ _ tk2 (hK _) rfl (a2.alloc (s := { s with heap := h2, toks := tk2 }) get_push get_next ⟨_, ⟨rfl, _, _, rfl, hi.append hj⟩, Heap.get?_push_size _ rfl⟩) ((k1.trans k2).trans (Keep.alloc get_push get_next)))
theorem ints_rep (x : Int) (t : Tok) : ∀ n : Nat, IntsAre (List.foldl (fun x1 x2 => x1 ++ x2) #[] (List.replicate n #[Value.int x t])).toList (List.replicate n x) := fun n => by
  rw [show (#[Value.int x t] : Array Value) = [Value.int x t].toArray from rfl, listMul_foldl, lm_rep_flat_one]
  simp only [List.nil_append]
  show IntsAre (List.replicate n (Value.int x t)) _
  induction n with
  | zero => exact .nil
  | succ n ih => exact .cons x t ih
/-- [x] * n -/
theorem EvK.rep {x : Expr} {b : Expr} {p pos : Pos} {n : Int} {v : Int} (hx : Ev c ρ σ x (.int v)) (hb : EvK c ρ σ b fun y σ₂ => y = .int n ∧ -1000000 < n ∧ n < 1000000 ∧ ∀ D, K (.ref D) ((D, .ints (List.replicate n.toNat v)) :: σ₂))
    (hp : ∀ pos, backTo pos (starEach [x] c.env) = (false, eval x c.env) :: backTo pos (starEach [] c.env) := by intro _; rfl) : EvK c ρ σ (.BinOp (.List [x] p) .Mult b pos) K := fun s Q E at_ k =>
  wpAny_BinOp (List_ (EvKs.p (K := fun as σ' => as = [.int v] ∧ σ' = σ) hx (EvKs.nil ⟨rfl, rfl⟩) hp s _ _ p at_ fun as vs σ' h1 tk ⟨e, e'⟩ hv a1 k1 => by
    subst e; subst e'
    obtain ⟨_, rfl, t, rfl⟩ := avs_one hv
    refine wpAny_newObj_type ?_ (by show 1 ≤ sizeLine; exact size_of (by decide))
    have a2 := a1.keeps (tk := tk) (s := { s with heap := h1, toks := tk }) (get_push (o := { cls := .type "list", dict := none, data := .seq [Value.int v t].toArray }))
    refine hb _ _ _ a2 fun y cv σ₂ h2 tk2 ⟨e, n0, n1, hK⟩ hv2 a3 k3 => ?_
    subst e
    obtain ⟨u, rfl⟩ := hv2
    have ho : h2.get? h1.objs.size = some { cls := .type "list", dict := none, data := .seq #[Value.int v t] } := k3.keep _ _ (Heap.get?_push_size _ rfl) (a1.off (.inr (.inr (.inr (.inr get_next)))))
    refine wpAny_binaryOp_repeat_ref (T := "list") (U := "int") (by decide) ⟨_, ho, rfl⟩ (fun s' => typeIs_int s' n u) noFill_list_mul F.fills_int_mul F.slot_int_rmul repeat_list F.slot_int_index.lookup
      (call_meets F.slot_int_rmul (typeIs_int _ n u) F.entry_int_rmul (F.args_int_rmul_2 _ _) (int___rmul___int_list n u h1.objs.size #[Value.int v t] 0)
        ⟨ho, rfl, ⟨_, ho, rfl⟩, call_meets F.slot_list_mul ⟨_, ho, rfl⟩ F.entry_list_mul (F.args_list_mul_2 _ _)
          (AutoListH.list___mul___list_int_3 h1.objs.size #[Value.int v t] 0 n u (by simp [Builtin.List.listFitsIndex]; omega) (by simp; omega) (by simp [Builtin.List.listTooLong, sizeLine]; omega))
          ⟨ho, ?_⟩⟩)
    exact k _ _ _ _ tk2 (hK _) rfl (a3.alloc (s := { s with heap := h2, toks := tk2 }) get_push get_next ⟨_, ⟨rfl, _, _, rfl, ints_rep v t n.toNat⟩, Heap.get?_push_size _ rfl⟩) (((k1.trans (Keep.of get_push)).trans k3).trans (Keep.alloc get_push get_next))))
end
end Mine.E
namespace Mine.E
/-- the contract of a def of the top, by its name -/
def Con (w : World) (r : Nat) (x : Str) (vs : List Value) (s : Shared) (Post : Value → Heap → Prop) : Prop :=
  ∀ {dp un : Nat} {gd : Option (List Code)} {A₀ : Around} {base h₀ : Heap} {outer : List Env} {env : Env} {L f : Addr} {m : Str → Option Value} {mean : ExcName → Option Value} {mg mb : Str → Option Value} {Q E : Value → Shared → Prop},
    Below A₀ base outer h₀ → Fr h₀ L s.heap m → R0At h₀ → Top vw (looseW vw []) mean mg mb h₀ → mg x = some (.ref f) → env.frame = some L → env.scope.kind = .function →
    dp + r < recursionLimit → un + 8 * r < cLine →
    (∀ v h' tk', s.heap.StaysIn h' → Post v h' → Q v { s with heap := h', toks := tk' }) →
    wpAny (model PySem.Challenge.rw_xm0082_01.row.prog w) { handled := none, depth := dp, frames := some (env :: outer), guards := gd, units := un } (call (.ref f) vs) Q E s
/-- a def hands back K of a value and of new objects -/
def Rets (s : Shared) (K : AV → Led → Prop) : Value → Heap → Prop := fun v h' => ∃ av σn, K av σn ∧ av.of v ∧ (∀ p ∈ σn, s.heap.get? p.1 = none ∧ Has h' p.1 p.2) ∧ σn.Pairwise fun p q => p.1 ≠ q.1
/-- what a def does, for arguments as and with the objects hs at hand -/
def Fun (r : Nat) (x : Str) (as : List AV) (hs : Led) (K : AV → Led → Prop) : Prop :=
  ∀ (w : World) (s : Shared) (vs : List Value), AVs as vs → (∀ p ∈ hs, Has s.heap p.1 p.2) → Con w r x vs s (Rets s K)
/-- a def of the text, by the number of its statement -/
structure Def (x : Str) : Prop where
  at_ : ∃ d ∈ recsOf vw, d.name = x
theorem Def.of {x : Str} (i : Nat) (h : [1, 3, 4, 5, 6, 8, 9, 10, 11, 12, 13, 14, 15, 17, 19, 20, 21, 22, 27, 28, 29, 31, 32, 33, 35, 36, 37, 38].contains i = true) (e : (recAt i).name = x) : Def x := ⟨_, rec_in h, e⟩
/-- what a body may lean on -/
structure Go (k : K0) (r : Nat) (hs : Led) : Prop where
  room : k.dp + r ≤ recursionLimit
  units : k.un + 8 * r < cLine + 3
  hs : ∀ p ∈ hs, Has k.h₀ p.1 p.2
/-- the results of a def: an int, a new list, a new pair -/
abbrev KI (n : Int) : AV → Led → Prop := fun v σ => v = .int n ∧ σ = []
abbrev KL (l : List Int) : AV → Led → Prop := fun v σ => ∃ D, v = .ref D ∧ σ = [(D, .ints l)]
abbrev KP (a b : Int) : AV → Led → Prop := fun v σ => ∃ D, v = .ref D ∧ σ = [(D, .tup [.int a, .int b])]
abbrev Ret (K : AV → Led → Prop) : AV → Led → Prop := fun v σ' => ∃ σn, σn.Sublist σ' ∧ K v σn
section
variable {c : Cx} {ρ : Loc} {σ : Led} {R : Loc → Led → Prop} {V : AV → Led → Prop} {rest : List Stmt}
/-- a builtin's name -/
theorem Glo.bi {x : Str} {v : Value} (e : biNames.contains x = true) (hv : bootBuiltins x = some v) (hn : x ≠ "__name__") (hx : c.env.kindOf x = some .globalImplicit := by rfl) (hg : c.env.globals = mainGlobals := by rfl) (hb : c.env.builtins = builtinsNs := by rfl)
    (hdb : (x == ("__debug__" : Str)) = false := by decide) : Glo c ρ σ x v := fun s Q E pos a h => by
  obtain ⟨m, F⟩ := a.fr
  have T := topRead_of a.ok.T
  exact Name_function_global a.ok.fn hx (loadGlobal_builtin (by rw [hg]; exact T.g.keeps F.keep) (bi_none a.ok.T e) (by rw [hb]; exact T.b.keeps F.keep) ((T.builtins x hn).trans hv) h) hdb
/-- the pair of the top -/
theorem EvK.r0 {pos : Pos} {K : AV → Led → Prop} (hK : ∀ a, Has c.k.h₀ a (.tup [.int 0, .int 1]) → K (.ref a) σ) (hx : c.env.kindOf (Str.ofString "R0") = some .globalImplicit := by rfl) (hg : c.env.globals = mainGlobals := by rfl) : EvK c ρ σ (.Name (Str.ofString "R0") pos) K := fun s Q E at_ h => by
  obtain ⟨m, F⟩ := at_.fr
  have T := topRead_of at_.ok.T
  obtain ⟨a, h1, h2⟩ := at_.ok.X
  rw [nsMap_of T.g] at h1
  exact Name_function_global at_.ok.fn hx (loadGlobal_global (by rw [hg]; exact T.g.keeps F.keep) h1 (h _ _ σ s.heap s.toks (hK a ⟨_, ⟨rfl, _, _, rfl, .cons ⟨_, rfl⟩ (.cons ⟨_, rfl⟩ .nil)⟩, h2⟩) rfl at_ .refl)) (by decide)
theorem call_any {x : Str} {p pos : Pos} {e : Expr} {es : List Expr} {K : List AV → Led → Prop} {s : Shared} {Q E : Value → Shared → Prop} (hd : Def x) (ha : EvKs c ρ σ (e :: es) K) (at_ : At c ρ σ s)
    (h : ∀ f as vs σ' h' tk, c.k.mg x = some (.ref f) → K as σ' → AVs as vs → At c ρ σ' { s with heap := h', toks := tk } → Keep σ σ' s.heap h' → wpAny c.M c.A (call (.ref f) vs) Q E { s with heap := h', toks := tk })
    (he : starEach (e :: es) c.env = (false, eval e c.env) :: starEach es c.env) (hx : c.env.kindOf x = some .globalImplicit) (hg : c.env.globals = mainGlobals) (hdb : (x == ("__debug__" : Str)) = false) : wpAny c.M c.A (eval (.Call (.Name x p) (e :: es) [] pos) c.env) Q E s := by
  obtain ⟨d, hm, rfl⟩ := hd.at_
  obtain ⟨f, o, pm, code, doc, hmg, ho, hdat, _⟩ := at_.ok.T.fn d hm
  obtain ⟨m, F⟩ := at_.fr
  have T := topRead_of at_.ok.T
  refine Call_Name rfl (Name_function_global at_.ok.fn hx (loadGlobal_global (by rw [hg]; exact T.g.keeps F.keep) hmg ?_) hdb)
  refine callWith_def hdat (ha _ _ _ pos at_ fun as vs σ' h' tk hK hvs a1 st1 => ⟨?_, h f as vs σ' h' tk hmg hK hvs a1 st1⟩) he
  obtain ⟨m, F⟩ := a1.fr
  exact F.keep _ _ ho
theorem EvK.call {x : Str} {p pos : Pos} {e : Expr} {es : List Expr} {r q : Nat} {bs : Led} {K : AV → Led → Prop} (hd : Def x) (go : Go c.k q bs) (hr : r < q)
    (ha : EvKs c ρ σ (e :: es) fun as σ' => ∃ hs K₀, Fun r x as hs K₀ ∧ (∀ p ∈ hs, Rd c σ' p.1 p.2) ∧ ∀ v σn, K₀ v σn → K v (σn ++ σ'))
    (he : starEach (e :: es) c.env = (false, eval e c.env) :: starEach es c.env := by rfl) (hx : c.env.kindOf x = some .globalImplicit := by rfl) (hg : c.env.globals = mainGlobals := by rfl) (hdb : (x == ("__debug__" : Str)) = false := by decide) : EvK c ρ σ (.Call (.Name x p) (e :: es) [] pos) K := fun s Q E at_ k =>
  call_any hd ha at_ (fun f as vs σ' h' tk hmg ⟨hs, K₀, hF, hrd, hK⟩ hvs a1 k1 => by
    obtain ⟨m, F⟩ := a1.fr
    have h1 := go.room
    have h2 := go.units
    refine hF c.k.w _ vs hvs (fun p hp => (hrd p hp).has a1) a1.ok.B F a1.ok.X a1.ok.T hmg a1.ok.hf a1.ok.hk (by omega) (by omega) fun v h2 tk2 hs2 ⟨av, σn, hK0, hv, hn, nd⟩ => ?_
    exact k av v _ h2 tk2 (hK av σn hK0) hv (a1.add (s := { s with heap := h', toks := tk }) hs2 hn nd) (k1.trans (Keep.add hs2 fun p hp => (hn p hp).1))) he hx hg hdb
theorem bindL_not {kindOf : Str → Option NameKind} {x : Str} : ∀ {l : List (Str × Value)} {m : Str → Option Value}, (∀ p ∈ l, p.1 ≠ x) → bindL kindOf l m x = m x
  | [], _, _ => rfl
  | (n, v) :: r, m, h => by
    show bindL kindOf r _ x = m x
    rw [bindL_not fun p hp => h p (.tail _ hp)]
    split
    · exact if_neg (Ne.symm (h _ (.head _)))
    · rfl
theorem bindC_not {kindOf : Str → Option NameKind} {x : Str} : ∀ {l : List (Str × Value)} {m : Str → Option Value}, (∀ p ∈ l, p.1 ≠ x) → bindC kindOf l m x = m x
  | [], _, _ => rfl
  | (n, v) :: r, m, h => by
    show bindC kindOf r _ x = m x
    rw [bindC_not fun p hp => h p (.tail _ hp)]
    split
    · rfl
    · exact if_neg (Ne.symm (h _ (.head _)))
theorem zip_ne {x : Str} : ∀ {xs : List Str} {vs : List Value}, x ∉ xs → ∀ p ∈ xs.zip vs, p.1 ≠ x := fun {xs vs} h p hp e => h (e ▸ (List.of_mem_zip hp).1)
theorem bind_at {kindOf : Str → Option NameKind} {x : Str} {a : AV} : ∀ {xs : List Str} {as : List AV} {vs : List Value}, xs.Nodup → AVs as vs → (xs.zip as).lookup x = some a → ∃ v, a.of v ∧ (x, v) ∈ xs.zip vs ∧ ∀ m,
    (kindOf x = some .local → bindL kindOf (xs.zip vs) m x = some v) ∧ (kindOf x ≠ some .local → bindC kindOf (xs.zip vs) m x = some v)
  | [], _, _, _, _, h => nomatch h
  | _ :: _, [], _, _, _, h => nomatch h
  | y :: xs, b :: as, _, hn, .cons (v := u) (vs := vs) hu hvs, h => by
    have hn2 := List.nodup_cons.mp hn
    by_cases e : x = y
    · subst e
      simp only [List.zip_cons_cons, List.lookup_cons, beq_self_eq_true] at h
      cases h
      refine ⟨u, hu, by simp, fun m => ⟨fun hk => ?_, fun hk => ?_⟩⟩
      · show bindL kindOf (xs.zip vs) _ x = some u
        rw [bindL_not (zip_ne hn2.1), if_pos hk]; simp
      · show bindC kindOf (xs.zip vs) _ x = some u
        rw [bindC_not (zip_ne hn2.1), if_neg hk]; simp
    · have hb : (x == y) = false := beq_eq_false_iff_ne.mpr e
      simp only [List.zip_cons_cons, List.lookup_cons, hb] at h
      obtain ⟨v, hv, hm, hx⟩ := bind_at (kindOf := kindOf) hn2.2 hvs h
      exact ⟨v, hv, List.mem_cons_of_mem _ hm, fun m => ⟨fun hk => (hx _).1 hk, fun hk => (hx _).2 hk⟩⟩
theorem lk_mem {β : Type} {x : Str} {b : β} : ∀ {l : List (Str × β)}, l.lookup x = some b → (x, b) ∈ l
  | [], h => nomatch h
  | (y, d) :: l, h => by
    by_cases e : x = y
    · subst e
      simp only [List.lookup_cons, beq_self_eq_true] at h
      cases h; exact .head _
    · have hb : (x == y) = false := beq_eq_false_iff_ne.mpr e
      simp only [List.lookup_cons, hb] at h
      exact .tail _ (lk_mem h)
theorem pair_uniq {l : List (Str × Addr)} (h : l.Pairwise fun x y => x.2 ≠ y.2) {y z : Str} {a : Addr} (hy : (y, a) ∈ l) (hz : (z, a) ∈ l) : y = z := by
  induction h with
  | nil => exact nomatch hy
  | cons h1 _ ih =>
    rcases List.mem_cons.mp hy with e | hy <;> rcases List.mem_cons.mp hz with e2 | hz
    · exact (congrArg Prod.fst e).trans (congrArg Prod.fst e2).symm
    · exact (h1 _ hz (congrArg Prod.snd e).symm).elim
    · exact (h1 _ hy (congrArg Prod.snd e2).symm).elim
    · exact ih hy hz
/-- a def of the text is entered: g is what must stay, σ₀ what may be turned -/
theorem enter {r dp un : Nat} {gd : Option (List Code)} {w : World} {s : Shared} {vs : List Value} {base g : Heap} {outer : List Env} {f : Addr} {mean : ExcName → Option Value} {mg mb : Str → Option Value} {Q E : Value → Shared → Prop} {A₀ : Around}
    {as : List AV} {hs σ₀ : Led} {V : AV → Led → Prop} {qual : Str} {params : Arguments} {body : List Stmt} {scope : Scope} {dpos : Pos} {xs : List Str} {ρ : Loc} (i : Nat)
    (hin : [1, 3, 4, 5, 6, 8, 9, 10, 11, 12, 13, 14, 15, 17, 19, 20, 21, 22, 27, 28, 29, 31, 32, 33, 35, 36, 37, 38].contains i = true) (hrec : recAt i = ⟨qual, params, body, scope, dpos⟩)
    (hbind : ∀ pm cdv doc s vs, vs.length = xs.length → BindsTo s (docDef qual params body scope pm cdv doc) ⟨vs, []⟩ (xs.zip vs))
    (hkind : (xs.all fun y => scope.names.lookup y == some .local || scope.names.lookup y == some .cell) = true) (hxs : xs.Nodup) (hlen : as.length = xs.length) (hρ : xs.zip as = ρ)
    (hco : scope.isCoroutine = false) (hgen : scope.isGenerator = false) (hk : scope.kind = .function)
    (hup : ∀ b o, g.get? b = some o → s.heap.get? b = some o) (hsz : g.objs.size ≤ s.heap.objs.size) (B : Below A₀ base outer g) (X : R0At g) (T : Top vw (looseW vw []) mean mg mb g) (hmg : mg qual = some (.ref f))
    (hd : dp + r < recursionLimit) (hu : un + 8 * r < cLine) (hvs : AVs as vs) (hhs : ∀ p ∈ hs, Has g p.1 p.2) (hσ : ∀ p ∈ σ₀, Has s.heap p.1 p.2 ∧ g.get? p.1 = none) (hnd : σ₀.Pairwise fun p q => p.1 ≠ q.1)
    (hb : ∀ k f cdv, Go k r hs → Ex ⟨k, envOfC qual scope k.L f cdv⟩ body ρ σ₀ (fun _ _ => False) V)
    (hret : ∀ v cv σ₁ h' tk', V v σ₁ → v.of cv → Keep σ₀ σ₁ s.heap h' → (∀ p ∈ σ₁, Has h' p.1 p.2) → (σ₁.Pairwise fun p q => p.1 ≠ q.1) → Q cv { s with heap := h', toks := tk' }) :
    wpAny (model PySem.Challenge.rw_xm0082_01.row.prog w) { handled := none, depth := dp, frames := some outer, guards := gd, units := un } (call (.ref f) vs) Q E s := by
  obtain ⟨f', o, pm, cdv, doc, hmg', ho, hdat, hcd⟩ := T.fn _ (rec_in hin)
  rw [hrec] at hmg' hdat hcd
  simp only at hmg' hdat hcd
  rw [hmg] at hmg'
  cases hmg'
  refine wpAny_call ?_
  have hlv : vs.length = xs.length := hvs.length.trans hlen
  have hkind2 : ((xs.zip vs).all fun y => scope.names.lookup y.1 == some .local || scope.names.lookup y.1 == some .cell) = true :=
    List.all_eq_true.mpr fun y hy => List.all_eq_true.mp hkind y.1 (List.of_mem_zip hy).1
  refine codeAny_call_function (by show dp < _; omega) (hup _ _ ho) hdat hco hgen rfl (hcd.keeps hup) (hbind pm cdv doc s vs hlv _ _ _ _ ?_)
  refine wpAny_newFunctionEnv_cells hk (kindsX hkind2 _) fun env' he s' x => ?_
  subst he
  refine ⟨(T.nolimit.keeps hup).keeps x.toInCall.keep, codeAny_func ?_⟩
  obtain ⟨h₁, tk, rfl, _⟩ := x.done
  have hk₁ := x.toInCall.keep
  let k : K0 := ⟨w, dp + 1, un + 3, gd, envOfC qual scope s.heap.objs.size f cdv, outer, A₀, base, g, s.heap.objs.size, mean, mg, mb⟩
  have hcd2 : ∀ x y a, (cellsFrom (s.heap.objs.size + 1) scope.names []).lookup x = some a → (cellsFrom (s.heap.objs.size + 1) scope.names []).lookup y = some a → x = y := fun y z a hy hz => pair_uniq x.apart (lk_mem hy) (lk_mem hz)
  have hin2 : ∀ p ∈ σ₀, p.1 < s.heap.objs.size := fun p hp => by
    obtain ⟨ob, _, _, hg, _⟩ := (hσ p hp).1.seq
    exact Heap.lt_size hg
  have at_ : At ⟨k, envOfC qual scope s.heap.objs.size f cdv⟩ ρ σ₀ { s with heap := h₁, toks := tk } := {
    ok := ⟨B, X, T, rfl, hk, hk, hcd2, .inl rfl⟩
    fr := ⟨_, x.toInCall.ns, fun b o e => hk₁ b o (hup b o e), hsz⟩
    ns := ⟨_, x.toInCall.ns⟩
    loc := fun y a hy => by
      subst hρ
      obtain ⟨v, hv, hm, hx⟩ := bind_at (kindOf := (envOfC qual scope s.heap.objs.size f cdv).kindOf) hxs hvs hy
      refine ⟨v, hv, ?_⟩
      rcases kindsX hkind2 (s.heap.objs.size + 1) (y, v) hm with h1 | ⟨h1, h2⟩
      · exact .inl ⟨h1, _, x.toInCall.ns, (hx _).1 h1⟩
      · obtain ⟨a2, ha2⟩ := Option.isSome_iff_exists.mp h2
        refine .inr ⟨h1, a2, ha2, ?_⟩
        have this : h₁.IsCell a2 (bindC (newEnv scope s.heap.objs.size mainGlobals (cellsFrom (s.heap.objs.size + 1) scope.names []) (qual ++ ".<locals>.") (some f) cdv none builtinsNs).kindOf (xs.zip vs) (fun _ => none) y) := x.cell y a2 ha2
        rwa [show bindC (newEnv scope s.heap.objs.size mainGlobals (cellsFrom (s.heap.objs.size + 1) scope.names []) (qual ++ ".<locals>.") (some f) cdv none builtinsNs).kindOf (xs.zip vs) (fun _ => none) y = some v from (hx _).2 (by show scope.names.lookup y ≠ _; rw [h1]; decide)] at this
    cf := fun y a hy => ⟨Heap.get?_none_of_le (Nat.le_trans hsz (Nat.le_of_lt (x.above y a (lk_mem hy)))), _, x.cell y a hy⟩
    led := fun p hp => ⟨(hσ p hp).1.mono fun ob e => hk₁ _ ob e, Nat.ne_of_lt (hin2 p hp), Nat.ne_of_lt (hin2 p hp), (hσ p hp).2⟩
    nd := hnd }
  have go : Go k r hs := ⟨by show dp + 1 + r ≤ _; omega, by show un + 3 + 8 * r < _; omega, hhs⟩
  have down : ∀ b, h₁.get? b = none → s.heap.get? b = none := fun b e => by
    cases q : s.heap.get? b with
    | none => rfl
    | some o => rw [hk₁ b o q] at e; cases e
  refine wpAny_mono (hb k f cdv go _ (fun fl s' => ∃ cv, fl = .ret cv ∧ Q cv s') at_ (fun _ _ _ _ r _ _ => r.elim) fun v cv ρ' σ' h tk' hV hv a st => ⟨cv, rfl, ?_⟩) (fun fl s' ⟨cv, e, q⟩ => by subst e; exact q) fun _ _ x => x.elim
  refine hret v cv σ' h tk' hV hv ⟨fun b o e h4 => ?_, fun p hp => (st.new p hp).imp id (down _), fun b e => down b (st.grow b e)⟩ (fun p hp => (a.led p hp).1) a.nd
  have hbl := Heap.lt_size e
  exact st.keep b o (hk₁ b o e) (Nat.ne_of_lt hbl) (Nat.ne_of_lt hbl) (fun y z hy ez => absurd (x.above y z (lk_mem hy)) (by subst ez; exact Nat.not_lt.mpr (Nat.le_of_lt hbl))) h4
theorem Fun.intro {r : Nat} {as : List AV} {hs : Led} {K : AV → Led → Prop} {qual : Str} {params : Arguments} {body : List Stmt} {scope : Scope} {dpos : Pos} {xs : List Str} {ρ : Loc} (i : Nat)
    (hin : [1, 3, 4, 5, 6, 8, 9, 10, 11, 12, 13, 14, 15, 17, 19, 20, 21, 22, 27, 28, 29, 31, 32, 33, 35, 36, 37, 38].contains i = true) (hrec : recAt i = ⟨qual, params, body, scope, dpos⟩)
    (hbind : ∀ pm cdv doc s vs, vs.length = xs.length → BindsTo s (docDef qual params body scope pm cdv doc) ⟨vs, []⟩ (xs.zip vs))
    (hkind : (xs.all fun y => scope.names.lookup y == some .local || scope.names.lookup y == some .cell) = true) (hxs : xs.Nodup) (hlen : as.length = xs.length) (hρ : xs.zip as = ρ)
    (hco : scope.isCoroutine = false) (hgen : scope.isGenerator = false) (hk : scope.kind = .function)
    (hb : ∀ k f cdv, Go k r hs → Ex ⟨k, envOfC qual scope k.L f cdv⟩ body ρ [] (fun _ _ => False) (Ret K)) : Fun r qual as hs K := by
  intro w s vs hvs hhs dp un gd A₀ base h₀ outer env L f m mean mg mb Q E B F X T hmg hf hke hd hu hret
  have B₁ := pushX B F hf hke
  refine enter (A₀ := { handled := none, depth := dp, frames := some (env :: outer), guards := gd, units := un }) (g := s.heap) i hin hrec hbind hkind hxs hlen hρ hco hgen hk (fun _ _ e => e) (Nat.le_refl _) ⟨rfl, B₁.stays, B₁.frames⟩ (X.keeps F.keep) (T.keeps F.keep) hmg hd hu hvs hhs (σ₀ := []) (fun _ h => absurd h List.not_mem_nil) .nil hb fun v cv σ₁ h tk ⟨σn, hsub, hK⟩ hv kp hl nd => ?_
  exact hret cv h tk (fun b o e => kp.keep b o e fun _ h => absurd h List.not_mem_nil) ⟨v, σn, hK, hv, fun p hp => ⟨(kp.new p (hsub.subset hp)).elim (fun ⟨_, h, _⟩ => absurd h List.not_mem_nil) id, hl p (hsub.subset hp)⟩, nd.sublist hsub⟩
end
end Mine.E
namespace Mine.E
theorem Keep.but {σ σ' : Led} {hs h h' : Heap} {wr : List Addr} (k : Keep σ σ' hs h) (hk : ∀ b o, b ∉ wr → h.get? b = some o → h'.get? b = some o) (hn : ∀ b ∈ wr, hs.get? b = none) : Keep σ σ' hs h' where
  keep := fun b o e h4 => hk b o (fun hb => by rw [hn b hb] at e; cases e) (k.keep b o e h4)
  new := k.new
  grow := fun b e => by
    by_cases hb : b ∈ wr
    · exact hn b hb
    · refine k.grow b ?_
      cases q : h.get? b with
      | none => rfl
      | some o' => rw [hk b o' hb q] at e; cases e
theorem same_wr {b : Addr} {h h' : Heap} (hs : Heap.SameBut b h h') : ∀ a o, a ∉ [b] → h.get? a = some o → h'.get? a = some o := fun a o ha e => hs.extBut a o (fun q => ha (List.mem_singleton.mpr q)) e
section
variable {c : Cx} {ρ : Loc} {σ : Led} {K : AV → Led → Prop}
theorem less_of {ρ₀ : Loc} {x : Str} {a : AV} (h : ρ₀.lookup x = none) : ∀ y v, ρ₀.lookup y = some v → ((x, a) :: ρ₀ : Loc).lookup y = some v := fun y v e => by
  by_cases q : y = x
  · rw [q, h] at e; cases e
  · exact (List.lookup_cons.trans (by rw [beq_eq_false_iff_ne.mpr q])).trans e
theorem comp_loop {elt iter : Expr} {x : Str} {px pos : Pos} {scope : Scope} {n : Nat} {P : Nat → AV → Prop} {fp : List Addr} {St : Nat → Heap → Prop} {I D : Addr} {s₀ : Shared} {hs h0 : Heap} {tk0 : Nat} {RR : Result → Shared → Prop} (Inv : Nat → List AV → Led → Prop)
    (W : Walks PySem.Challenge.rw_xm0082_01.row.prog c.k.w c.A I fp [I] n (fun i v => ∃ a, P i a ∧ AV.of a v) St) (hx : Sto c x) (hρ : ρ.lookup x = none) (hex : ∀ i h, St i h → ∃ o, h.get? I = some o) (at0 : At c ρ σ { s₀ with heap := h0, toks := tk0 }) (hst : St 0 h0)
    (sf : ∀ b ∈ fp, Safe c σ h0 b) (sD : Safe c σ h0 D) (hD : h0.get? D = some (LCg.lst [])) (hDf : D ∉ fp) (k0 : Keep σ σ hs h0) (nI : hs.get? I = none) (nD : hs.get? D = none) (nL : hs.get? c.env.locals = none) (nX : ∀ a, c.env.cells.lookup x = some a → c.env.kindOf x = some .cell → hs.get? a = none)
    (gI : c.k.h₀.get? I = none) (gD : c.k.h₀.get? D = none) (hn : n < 1000000) (inv0 : Inv 0 [] σ)
    (turn : ∀ i a ys σ', i < n → P i a → Inv i ys σ' → EvK c ((x, a) :: ρ) σ' elt (fun y σ'' => Inv (i + 1) (ys ++ [y]) σ''))
    (fin : ∀ ys vs σ' h tk, Inv n ys σ' → AVs ys vs → At c ρ σ' { s₀ with heap := h, toks := tk } → Keep σ σ' hs h → h.get? D = some (LCg.lst vs) → Safe c σ' h D → RR (.ok .next) { s₀ with heap := h, toks := tk }) :
    codeAny c.M c.A (.compLoop (.ListComp elt [⟨.Name x px, iter, [], 0⟩] scope pos) 0 (.ref I) (.ref D) c.env) RR { s₀ with heap := h0, toks := tk0 } := by
  have hIf : I ∈ fp := W.sub I (List.mem_singleton.mpr rfl)
  have one : ∀ {b : Addr} {σ' : Led} {h' : Heap}, Safe c σ' h' b → c.k.h₀.get? b = none → ∀ J ∈ [b], Safe c σ' h' J ∧ c.k.h₀.get? J = none := fun a e J hJ => by rw [List.mem_singleton.mp hJ]; exact ⟨a, e⟩
  have on1 : ∀ {b : Addr}, hs.get? b = none → ∀ J ∈ [b], hs.get? J = none := fun e J hJ => by rw [List.mem_singleton.mp hJ]; exact e
  refine codeAny_compLoop_tests (fun k s' => ∃ h' tk i ys vs σ', s' = { s₀ with heap := h', toks := tk } ∧ i ≤ n ∧ k = n + 1 - i ∧ vs.length = i ∧ Inv i ys σ' ∧ AVs ys vs ∧ At c ρ σ' { s₀ with heap := h', toks := tk } ∧ Keep σ σ' hs h' ∧ St i h' ∧ (∀ b ∈ fp, Safe c σ' h' b) ∧ Safe c σ' h' D ∧ h'.get? D = some (LCg.lst vs)) ?_ (n + 1)
    ⟨h0, tk0, 0, [], [], σ, rfl, Nat.zero_le _, rfl, rfl, inv0, .nil, at0, k0, hst, sf, sD, hD⟩
  rintro k s' ⟨h', tk, i, ys, vs, σ', rfl, hin, rfl, hvl, hInv, hvs, a', k', hst', sf', sD', hD'⟩
  have hDI : D ≠ I := fun e => hDf (e ▸ hIf)
  by_cases hlt : i < n
  · refine W.item i _ _ _ hlt hst' fun v h2 tk2 hP hst2 hk2 => ?_
    obtain ⟨a, hPa, hv⟩ := hP
    have a2 : At c ρ σ' { s₀ with heap := h2, toks := tk2 } := a'.but (tk := tk2) (one (sf' I hIf) gI) hk2
    have hI2 : ∀ J ∈ [I], ∃ o, h2.get? J = some o := fun J hJ => by rw [List.mem_singleton.mp hJ]; exact hex _ _ hst2
    have sf2 : ∀ b ∈ fp, Safe c σ' h2 b := fun b hb => (sf' b hb).item hk2 hI2
    have sD2 : Safe c σ' h2 D := sD'.item hk2 hI2
    refine wpAny_assign_Name (store_any a2 hx hv fun h3 tk3 a3 st3 ⟨b3, hs3, hb3⟩ => ?_)
    refine wpAny_tests_nil ?_
    simp only [if_true]
    have n3 : hs.get? b3 = none := hb3.elim (fun e => e ▸ nL) fun e => nX _ e.2 e.1
    have k3 : Keep σ σ' hs h3 := (k'.but hk2 (on1 nI)).but (same_wr hs3) (on1 n3)
    refine turn i a ys σ' hlt hPa hInv _ _ _ a3 fun y cv σ4 h4 tk4 inv4 hcv a4 kp4 => ?_
    have sf4 : ∀ b ∈ fp, Safe c σ4 h4 b := fun b hb => ((sf2 b hb).stay st3).stay kp4.stay
    have sD4 : Safe c σ4 h4 D := (sD2.stay st3).stay kp4.stay
    have hD4 : h4.get? D = some (LCg.lst vs) := (sD2.stay st3).kept kp4.stay _ (sD2.kept st3 _ (hk2 D _ (by simpa using hDI) hD'))
    refine append_at (hsz := by show vs.toArray.size ≤ sizeLine; rw [List.size_toArray, hvl]; exact size_of (Nat.lt_trans hlt hn)) hD4 fun h5 hs5 hD5 => ?_
    have hI5 : ∀ J ∈ [D], ∃ o, h5.get? J = some o := fun J hJ => by rw [List.mem_singleton.mp hJ]; exact ⟨_, hD5⟩
    refine ⟨n + 1 - (i + 1), by omega, h5, tk4, i + 1, ys ++ [y], vs ++ [cv], σ4, rfl, hlt, rfl, by rw [List.length_append, List.length_singleton, hvl], inv4, hvs.snoc hcv, (a4.less (less_of hρ)).but (tk := tk4) (one sD4 gD) (same_wr hs5), (k3.trans kp4).but (same_wr hs5) (on1 nD),
      W.frame _ _ _ hst2 fun b hb o e => hs5.extBut b o (fun q => hDf (q ▸ hb)) (((sf2 b hb).stay st3).kept kp4.stay o ((sf2 b hb).kept st3 o e)), fun b hb => (sf4 b hb).item (same_wr hs5) hI5, sD4.item (same_wr hs5) hI5, hD5.trans (congrArg some (LCg.lst_snoc vs cv))⟩
  · obtain rfl : i = n := Nat.le_antisymm hin (Nat.not_lt.mp hlt)
    refine W.done _ _ _ hst' fun h2 tk2 hk2 => ?_
    have a2 : At c ρ σ' { s₀ with heap := h2, toks := tk2 } := a'.but (tk := tk2) (one (sf' I hIf) gI) hk2
    refine fin ys vs σ' h2 tk2 hInv hvs a2 (k'.but hk2 (on1 nI)) (hk2 D _ (by simpa using hDI) hD') { sD' with is := ⟨_, hk2 D _ (by simpa using hDI) hD'⟩ }
/-- the activation of a comprehension -/
theorem comp_at {env : Env} {ρ₀ : Loc} {s : Shared} {h1 : Heap} {tk : Nat} {m : Str → Option Value} (a : At c ρ σ s) (up : ∀ b o, s.heap.get? b = some o → h1.get? b = some o) (hf : env.scope.kind = .function) (hC : s.heap.get? env.locals = none) (hns : h1.Ns env.locals m)
    (hcl : ∀ y b, env.cells.lookup y = some b → c.env.cells.lookup y = some b ∨ (s.heap.get? b = none ∧ (∃ v, h1.IsCell b v) ∧ ∀ z, env.cells.lookup z = some b → z = y))
    (hρ : ∀ y v, ρ₀.lookup y = some v → ρ.lookup y = some v ∧ c.env.kindOf y = some .cell ∧ env.kindOf y = some .cell ∧ env.cells.lookup y = c.env.cells.lookup y) : At ⟨c.k, env⟩ ρ₀ σ { s with heap := h1, toks := tk } := by
  have a1 : At c ρ σ { s with heap := h1, toks := tk } := a.keeps up
  have gC : c.k.h₀.get? env.locals = none := a.fresh hC
  have lC : env.locals ≠ c.k.L := fun e => by
    obtain ⟨m, F⟩ := a.fr
    obtain ⟨o, ho⟩ := ns_is F.ns
    rw [← e, hC] at ho; cases ho
  exact {
    ok := ⟨a.ok.B, a.ok.X, a.ok.T, a.ok.hf, a.ok.hk, hf, fun y z b hy hz => by
      rcases hcl y b hy with h1 | ⟨h1, _, h3⟩
      · rcases hcl z b hz with h2 | ⟨_, _, h3⟩
        · exact a.ok.cd y z b h1 h2
        · exact h3 y hy
      · exact (h3 z hz).symm, .inr ⟨lC, gC⟩⟩
    fr := a1.fr
    ns := ⟨_, hns⟩
    loc := fun y v hy => by
      obtain ⟨e1, e2, e3, e4⟩ := hρ y v hy
      obtain ⟨cv, hv, hw⟩ := a1.loc y v e1
      refine ⟨cv, hv, .inr ⟨e3, ?_⟩⟩
      rcases hw with ⟨hk, _⟩ | ⟨_, b, hc, hcell⟩
      · rw [e2] at hk; cases hk
      · exact ⟨b, e4.trans hc, hcell⟩
    cf := fun y b hy => by
      rcases hcl y b hy with h1 | ⟨h1, h2, _⟩
      · exact a1.cf y b h1
      · exact ⟨a.fresh h1, h2⟩
    led := fun p hp => by
      obtain ⟨h1, h2, h3, h4⟩ := a1.led p hp
      exact ⟨h1, h2, a.off (.inr (.inr (.inr (.inr hC)))) p hp, h4⟩
    nd := a.nd }
/-- a list comprehension over one source -/
theorem EvK.comp {elt iter : Expr} {x : Str} {px pos : Pos} {scope : Scope} {n : Nat} {P : Nat → AV → Prop} {cl : List (Str × Addr)} {ρ₀ : Loc} (Inv : Nat → List AV → Led → Prop) (hsrc : Src c ρ σ iter n P)
    (hclos : closureFor scope c.env = Pure.pure cl) (hcell : ∀ y ∈ scope.names, y.2 ≠ .cell) (hkind : scope.kind = .function) (hnames : ∀ y ∈ scope.names, y.2 = .local → scope.names.lookup y.1 = some .local) (hx : scope.names.lookup x = some .local)
    (hcl : ∀ y b, cl.lookup y = some b → c.env.cells.lookup y = some b) (hρ : ∀ y v, ρ₀.lookup y = some v → ρ.lookup y = some v ∧ c.env.kindOf y = some .cell ∧ (relabel scope c.env).names.lookup y = some .cell ∧ cl.lookup y = c.env.cells.lookup y) (hxρ : ρ₀.lookup x = none) (hn : n < 1000000) (inv0 : Inv 0 [] σ)
    (turn : ∀ C i a ys σ', i < n → P i a → Inv i ys σ' → EvK ⟨c.k, compEnvC scope cl C c.env⟩ ((x, a) :: ρ₀) σ' elt (fun y σ'' => Inv (i + 1) (ys ++ [y]) σ''))
    (hK : ∀ ys σ', Inv n ys σ' → (∀ D, K (.ref D) ((D, .lst ys) :: σ')) ∨ ∃ l : List Int, ys = l.map .int ∧ ∀ D, K (.ref D) ((D, .ints l) :: σ')) (hfs : ∀ v, foldedSetIterable iter c.env v = Pure.pure v := by intro _; rfl) : EvK c ρ σ (.ListComp elt [⟨.Name x px, iter, [], 0⟩] scope pos) K := fun s Q E at_ k => by
  rw [eval_ListComp]
  refine wpAny_comprehension_free (use := none) rfl hfs hclos hkind hnames (hsrc s _ E at_ fun I fp St h tk W hst at1 k1 sf hex hnew => ?_)
  refine wpAny_newObj_type (wpAny_newFunctionEnv hcell (by intro y hy; simp at hy) (fun h₁ hns₁ hsb₁ => ?_) hkind)
  dsimp only at hns₁ hsb₁ ⊢
  generalize hH2 : h.push { cls := .type "list", dict := none, data := .seq ([] : List Value).toArray } = H2 at hns₁ hsb₁ ⊢
  have hlt : ∀ b o, h.get? b = some o → b ≠ H2.objs.size := fun b o e q => by
    have := Heap.lt_size e
    rw [q, ← hH2, Heap.size_push] at this
    exact Nat.lt_irrefl _ (Nat.lt_of_succ_lt this)
  have up : ∀ b o, h.get? b = some o → h₁.get? b = some o := fun b o e => hsb₁.extBut b o (hlt b o e) (get_push _ _ (hH2 ▸ get_push _ _ e))
  have hDC : h.objs.size ≠ H2.objs.size := by rw [← hH2, Heap.size_push]; exact Nat.ne_of_lt (Nat.lt_succ_self _)
  have hD : h₁.get? h.objs.size = some (LCg.lst []) := hsb₁.extBut _ _ hDC (get_push _ _ (hH2 ▸ Heap.get?_push_size _ rfl))
  have hC : h.get? H2.objs.size = none := Heap.get?_none_of_le (by rw [← hH2, Heap.size_push]; exact Nat.le_succ _)
  have bel : ∀ b, h.get? b = none → s.heap.get? b = none := k1.grow
  have at2 : At ⟨c.k, compEnvC scope cl H2.objs.size c.env⟩ ρ₀ σ { s with heap := h₁, toks := tk + ([] : List (Str × Value)).length } :=
    comp_at (s := { s with heap := h, toks := tk }) at1 up hkind hC hns₁ (fun y b e => .inl (hcl y b e)) fun y v e => hρ y v e
  have sf2 : ∀ b ∈ fp, Safe (⟨c.k, compEnvC scope cl H2.objs.size c.env⟩ : Cx) σ h₁ b := fun b hb => by
    have z := sf b hb
    obtain ⟨o, ho⟩ := z.is
    exact ⟨⟨o, up b o ho⟩, z.l, hlt b o ho, fun y a hy => z.cells y a (hcl y a hy), z.led⟩
  have sD : Safe (⟨c.k, compEnvC scope cl H2.objs.size c.env⟩ : Cx) σ h₁ h.objs.size := by
    have z := Safe.fresh (s := { s with heap := h, toks := tk }) at1 (h' := h₁) get_next ⟨_, hD⟩
    exact ⟨z.is, z.l, hDC, fun y a hy => z.cells y a (hcl y a hy), z.led⟩
  have hDf : h.objs.size ∉ fp := fun hm => by
    obtain ⟨o, ho⟩ := (sf _ hm).is
    rw [get_next] at ho; cases ho
  have gI : c.k.h₀.get? I = none := at_.fresh hnew
  have gD : c.k.h₀.get? h.objs.size = none := at_.fresh (bel _ get_next)
  have loop : codeAny c.M c.A (.compLoop (.ListComp elt [⟨.Name x px, iter, [], 0⟩] scope pos) 0 (.ref I) (.ref h.objs.size) (compEnvC scope cl H2.objs.size c.env)) (compPost c.M c.A E none Q (.ref h.objs.size) H2.objs.size) { s with heap := h₁, toks := tk + ([] : List (Str × Value)).length } := by
    refine comp_loop (c := ⟨c.k, compEnvC scope cl H2.objs.size c.env⟩) (hs := s.heap) (P := P) Inv W (.inl (lookup_relabel_local hx)) hxρ hex at2 (W.frame _ _ _ hst fun b _ o e => up b o e) sf2 sD hD hDf (k1.trans (Keep.of up)) hnew (bel _ get_next) (bel _ hC)
      (fun a _ e => by rw [show (compEnvC scope cl H2.objs.size c.env).kindOf x = some .local from lookup_relabel_local hx] at e; cases e) gI gD hn inv0 (turn H2.objs.size) ?_
    intro ys vs σ' h3 tk3 hInv hvs a3 k3 hD3 sD3
    obtain ⟨m3, hn3⟩ := a3.ns
    refine ⟨m3, hn3, fun h4 hs4 => ?_⟩
    have hC3 : ∀ p ∈ σ', p.1 ≠ H2.objs.size := fun p hp => (a3.led p hp).2.2.1
    have hDC4 : h4.get? h.objs.size = some (LCg.lst vs) := hs4.extBut _ _ hDC hD3
    have k4 : Keep σ σ' s.heap h4 := k3.but (same_wr hs4) fun J hJ => by rw [List.mem_singleton.mp hJ]; exact bel _ hC
    have hl4 : ∀ p ∈ σ', Has h4 p.1 p.2 := fun p hp => (a3.led p hp).1.mono fun ob e => hs4.extBut _ _ (hC3 p hp) e
    have fin : ∀ o : AO, o.of (LCg.lst vs) → K (.ref h.objs.size) ((h.objs.size, o) :: σ') → Q (.ref h.objs.size) { s with heap := h4, toks := tk3 } := fun o ho hk => by
      have k5 : Keep σ ((h.objs.size, o) :: σ') s.heap h4 := ⟨k4.keep, fun p hp => (List.mem_cons.mp hp).elim (fun e => .inr (e ▸ bel _ get_next)) fun hp => k4.new p hp, k4.grow⟩
      refine k (.ref h.objs.size) _ _ h4 tk3 hk rfl (at_.kept k5 (fun p hp => ?_) (.cons (fun p hp => Ne.symm (sD3.led p hp)) a3.nd)) k5
      rcases List.mem_cons.mp hp with rfl | hp
      · exact ⟨_, ho, hDC4⟩
      · exact hl4 p hp
    rcases hK ys σ' hInv with hk | ⟨l, rfl, hk⟩
    · exact fin (.lst ys) ⟨rfl, vs, _, rfl, hvs⟩ (hk _)
    · exact fin (.ints l) ⟨rfl, vs, _, rfl, hvs.ints⟩ (hk _)
  exact codeAny_compStart_list loop (W.self 0 _ _ _ (W.frame _ _ _ hst fun b _ o e => up b o e) loop)
end
end Mine.E
namespace Mine.E
/-- targets of a row: the names get the values in order -/
def Tg (c : Cx) (ρ : Loc) (elts : List Expr) (as : List AV) (ρ' : Loc) : Prop :=
  (assignEach elts c.env).findIdx? (·.1) = none ∧ (assignEach elts c.env).length = as.length ∧ ∀ (s : Shared) (σ : Led) (Q : Unit → Shared → Prop) (E : Value → Shared → Prop) (vs : List Value), At c ρ σ s → AVs as vs →
    (∀ h tk, At c ρ' σ { s with heap := h, toks := tk } → Stay c σ σ s.heap h → Q () { s with heap := h, toks := tk }) → wpAny c.M c.A (assignInOrder ((assignEach elts c.env).map (·.2)) vs) Q E s
/-- the same for names that are bound one by one -/
def Tn (c : Cx) (ρ : Loc) (xs : List Str) (as : List AV) (ρ' : Loc) : Prop :=
  xs.length = as.length ∧ ∀ (s : Shared) (σ : Led) (Q : Unit → Shared → Prop) (E : Value → Shared → Prop) (vs : List Value), At c ρ σ s → AVs as vs →
    (∀ h tk, At c ρ' σ { s with heap := h, toks := tk } → Stay c σ σ s.heap h → Q () { s with heap := h, toks := tk }) → wpAny c.M c.A (assignInOrder (xs.map fun n => bindName c.env n) vs) Q E s
theorem AVs.reverse {as : List AV} {vs : List Value} (h : AVs as vs) : AVs as.reverse vs.reverse := by
  induction h with
  | nil => exact .nil
  | cons h1 _ ih => simpa using ih.snoc h1
theorem Has.tup {h : Heap} {a : Addr} {l : List AV} (x : Has h a (.tup l)) : ∃ vs, IsTup h a vs.toArray ∧ AVs l vs := let ⟨_, ⟨hc, vs, n, hd, hi⟩, hg⟩ := x; ⟨vs, ⟨_, hg, hc, n, hd⟩, hi⟩
theorem Has.alist {h : Heap} {a : Addr} {l : List AV} (x : Has h a (.lst l)) : ∃ vs, h.IsList a vs.toArray ∧ AVs l vs := let ⟨_, ⟨hc, vs, n, hd, hi⟩, hg⟩ := x; ⟨vs, ⟨_, hg, hc, n, hd⟩, hi⟩
theorem ints_set {vs : List Value} {l : List Int} (h : IntsAre vs l) (x : Int) (t : Tok) : ∀ k, IntsAre (vs.set k (.int x t)) (l.set k x) := by
  induction h with
  | nil => intro k; exact .nil
  | cons a t' r ih =>
    intro k
    cases k with
    | zero => exact .cons x t r
    | succ k => exact .cons a t' (ih k)
section
variable {c : Cx} {ρ : Loc} {σ : Led} {R : Loc → Led → Prop} {V : AV → Led → Prop} {rest : List Stmt} {K : AV → Led → Prop}
theorem Tg.nil : Tg c ρ [] [] ρ := ⟨rfl, rfl, fun s σ Q E vs at_ hv k => by
  cases hv
  exact wpAny_assignInOrder_none (k s.heap s.toks at_ .refl)⟩
theorem Tg.cons {x : Str} {px : Pos} {es : List Expr} {a : AV} {as : List AV} {ρ' : Loc} (h : Tg c ((x, a) :: ρ) es as ρ') (hx : Sto c x := by exact Or.inl rfl) (he : assignEach (.Name x px :: es) c.env = (false, assign (.Name x px) c.env) :: assignEach es c.env := by rfl) : Tg c ρ (.Name x px :: es) (a :: as) ρ' := by
  refine ⟨by rw [he]; simpa [List.findIdx?_cons] using h.1, by rw [he]; simpa using h.2.1, fun s σ Q E vs at_ hv k => ?_⟩
  rw [he]
  cases hv with
  | cons h1 h2 => exact wpAny_assignInOrder_more (wpAny_assign_Name (store_any at_ hx h1 fun h' tk' a' st _ => h.2.2 _ σ _ _ _ a' h2 fun h4 tk4 a4 st4 => k h4 tk4 a4 (st.trans st4)))
theorem Tn.nil : Tn c ρ [] [] ρ := ⟨rfl, fun s σ Q E vs at_ hv k => by
  cases hv
  exact wpAny_assignInOrder_none (k s.heap s.toks at_ .refl)⟩
theorem Tn.cons {x : Str} {xs : List Str} {a : AV} {as : List AV} {ρ' : Loc} (h : Tn c ((x, a) :: ρ) xs as ρ') (hx : Sto c x := by exact Or.inl rfl) : Tn c ρ (x :: xs) (a :: as) ρ' := by
  refine ⟨by simpa using h.1, fun s σ Q E vs at_ hv k => ?_⟩
  cases hv with
  | cons h1 h2 => exact wpAny_assignInOrder_more (wpAny_bindName (store_any at_ hx h1 fun h' tk' a' st _ => h.2 _ σ _ _ _ a' h2 fun h4 tk4 a4 st4 => k h4 tk4 a4 (st.trans st4)))
/-- x, y = e : a tuple is taken apart -/
theorem Ex.unpack {elts : List Expr} {k : Nat} {tpos pos : Pos} {e : Expr} (he : EvK c ρ σ e fun v σ' => ∃ D as, v = .ref D ∧ Rd c σ' D (.tup as) ∧ ∃ σ₂ ρ', σ₂.Sublist σ' ∧ Tg c ρ elts as ρ' ∧ Ex c rest ρ' σ₂ R V)
    (hs : swapsWithSole [.Tuple elts k tpos] e pos.line c.env = pure false := by rfl) (hw : swappedStores [.Tuple elts k tpos] e c.env = pure none := by rfl) : Ex c (.Assign [.Tuple elts k tpos] e pos :: rest) ρ σ R V := fun s _ at_ hR hV =>
  wpAny_execs_cons (Assign_Tuple (he s _ _ at_ fun v cv σ' h tk ⟨D, as, e1, hr, σ₂, ρ', hsub, hT, hX⟩ hv a1 k1 => by
    subst e1; cases hv
    obtain ⟨vs, ht, hi⟩ := (hr.has a1).tup
    refine assign_Tuple_tuple rfl ht (by rw [hT.2.1]; simp [hi.length]) hT.1 fun h' he' => ?_
    have up : ∀ b o, h.get? b = some o → h'.get? b = some o := fun b o e => he' b o (Nat.ne_of_lt (Heap.lt_size e)) e
    have a2 : At c ρ σ' { s with heap := h', toks := tk } := a1.keeps (tk := tk) (s := { s with heap := h, toks := tk }) up
    refine hT.2.2 { s with heap := h', toks := tk } σ₂ _ _ vs (a2.sub hsub) hi fun h4 tk4 a4 st4 => ?_
    exact Ex.after (s := s) hX a4 (((k1.trans (Keep.of up)).sub fun _ hp => hsub.subset hp).stay.trans st4) hR hV) hs hw)
/-- a, b = (.., ..) with the stores swapped -/
theorem Ex.swapped {elts es : List Expr} {k k2 : Nat} {tpos epos pos : Pos} (xs : List Str) (he : EvKs c ρ σ es fun as σ' => as.length < 1000000 ∧ xs.length = as.length ∧ ∃ ρ', Tn c ρ xs.reverse as.reverse ρ' ∧ Ex c rest ρ' σ' R V)
    (hs : swapsWithSole [.Tuple elts k tpos] (.Tuple es k2 epos) pos.line c.env = pure false := by rfl) (hw : swappedStores [.Tuple elts k tpos] (.Tuple es k2 epos) c.env = pure (some xs) := by rfl) : Ex c (.Assign [.Tuple elts k tpos] (.Tuple es k2 epos) pos :: rest) ρ σ R V := fun s _ at_ hR hV =>
  wpAny_execs_cons (Assign_Tuple_swapped (EvK.tup (K := fun v σ' => ∃ D as σ₂, v = .ref D ∧ σ' = (D, .tup as) :: σ₂ ∧ xs.length = as.length ∧ ∃ ρ', Tn c ρ xs.reverse as.reverse ρ' ∧ Ex c rest ρ' σ₂ R V) (fun s Q E pos at_ k => he s Q E pos at_ fun as vs σ' h tk ⟨h1, h2, h3⟩ => k as vs σ' h tk ⟨h1, fun D => ⟨D, as, σ', rfl, rfl, h2, h3⟩⟩) s _ _ at_ fun v cv σ' h tk ⟨D, as, σ₂, e1, e2, hl, ρ', hT, hX⟩ hv a1 k1 => by
    subst e1; subst e2; cases hv
    obtain ⟨vs, ht, hi⟩ := (a1.led _ (.head _)).1.tup
    have hsz : xs.length = vs.toArray.size := by rw [List.size_toArray, hi.length, hl]
    rw [hsz]
    refine unpackItems_tuple rfl ht fun h' he' => ?_
    have up : ∀ b o, h.get? b = some o → h'.get? b = some o := fun b o e => he' b o (Nat.ne_of_lt (Heap.lt_size e)) e
    have a2 : At c ρ ((D, .tup as) :: σ₂) { s with heap := h', toks := tk } := a1.keeps (tk := tk) (s := { s with heap := h, toks := tk }) up
    refine hT.2 { s with heap := h', toks := tk } σ₂ _ _ _ (a2.sub (List.sublist_cons_self _ _)) (by simpa using hi.reverse) fun h4 tk4 a4 st4 => ?_
    exact Ex.after (s := s) hX a4 (((k1.trans (Keep.of up)).sub fun _ hp => .tail _ hp).stay.trans st4) hR hV) hs hw)
theorem Ev.titem {e i : Expr} {pos : Pos} {a : Addr} {l : List AV} {k : Int} {v : AV} (he : Ev c ρ σ e (.ref a)) (hi : Ev c ρ σ i (.int k)) (hr : Rd c σ a (.tup l)) (h0 : 0 ≤ k) (hv : l[k.toNat]? = some v) (hfit : l.length < 1000000)
    (hs : ∀ u : Tok, subscripted i false (.ref a) (.int k u) = operate [.ref a, .int k u] (getItem (.ref a) (.int k u)) := by intro _; with_unfolding_all rfl) (hg : ∀ r, letTemporaryGo e (.ref a) r = Pure.pure () := by intro _; with_unfolding_all rfl) :
    Ev c ρ σ (.Subscript e i pos) v := fun s Q E at_ h =>
  Subscript_ (he s _ _ at_ fun cv tk e1 => by
    cases e1
    exact hi _ _ _ (at_.tok tk) fun cv tk2 ⟨u, e2⟩ => by
      subst e2
      obtain ⟨vs, ht, hvs⟩ := (hr.has (at_.tok tk2)).tup
      obtain ⟨w, hw, hwv⟩ := hvs.get hv
      have hlt : k.toNat < l.length := (List.getElem?_eq_some_iff.mp hv).1
      have hl := hvs.length
      exact item_tupleL ht (by omega) (by omega) (j := k.toNat) (seqIndex_of h0 (by omega)) hw (h _ _ hwv) (hs u) hg)
theorem Ev.litem {e i : Expr} {pos : Pos} {a : Addr} {l : List AV} {k : Int} {v : AV} (he : Ev c ρ σ e (.ref a)) (hi : Ev c ρ σ i (.int k)) (hr : Rd c σ a (.lst l)) (h0 : 0 ≤ k) (hv : l[k.toNat]? = some v) (hfit : l.length < 1000000)
    (hs : ∀ u : Tok, subscripted i false (.ref a) (.int k u) = operate [.ref a, .int k u] (getItem (.ref a) (.int k u)) := by intro _; with_unfolding_all rfl) (hg : ∀ r, letTemporaryGo e (.ref a) r = Pure.pure () := by intro _; with_unfolding_all rfl) :
    Ev c ρ σ (.Subscript e i pos) v := fun s Q E at_ h =>
  Subscript_ (he s _ _ at_ fun cv tk e1 => by
    cases e1
    exact hi _ _ _ (at_.tok tk) fun cv tk2 ⟨u, e2⟩ => by
      subst e2
      obtain ⟨vs, hl, hvs⟩ := (hr.has (at_.tok tk2)).alist
      obtain ⟨w, hw, hwv⟩ := hvs.get hv
      have hlt : k.toNat < l.length := (List.getElem?_eq_some_iff.mp hv).1
      exact item_listL hl h0 (by omega) hw (h _ _ hwv) (hs u) hg)
/-- xs[i] = e, xs[i] += e for an own list at the ledger's head -/
theorem setItem_any {s : Shared} {Q : Unit → Shared → Prop} {E : Value → Shared → Prop} {D : Addr} {l : List Int} {k x : Int} {t u : Tok} (at_ : At c ρ ((D, .ints l) :: σ) s) (h0 : 0 ≤ k) (h1 : k < l.length) (hfit : l.length < 1000000)
    (h : ∀ h' tk, At c ρ ((D, .ints (l.set k.toNat x)) :: σ) { s with heap := h', toks := tk } → Keep ((D, .ints l) :: σ) ((D, .ints (l.set k.toNat x)) :: σ) s.heap h' → Q () { s with heap := h', toks := tk }) :
    wpAny c.M c.A (setItem (.ref D) (.int k t) (.int x u)) Q E s := by
  obtain ⟨ob, ⟨hc, vs, n, hd, hi⟩, hg⟩ := (at_.led _ (.head _)).1
  have hl : s.heap.IsList D vs.toArray := ⟨_, hg, hc, _, hd⟩
  have hlen := hi.length
  refine wpAny_setItem_list hl h0 (by omega) (by rw [List.size_toArray, hlen]; exact h1) fun h' hl' hs => ?_
  obtain ⟨ob', hg', hc', n', hd'⟩ := hl'
  have z := at_.set (tk := s.toks) hs (o' := .ints (l.set k.toNat x)) ⟨ob', ⟨hc', vs.set k.toNat (.int x u), n', by rw [hd']; simp, ints_set hi x u k.toNat⟩, hg'⟩
  exact h h' s.toks z.1 z.2
theorem Ex.setItem {o i e : Expr} {tp pos : Pos} {D : Addr} {l : List Int} {k x : Int} (he : Ev c ρ ((D, .ints l) :: σ) e (.int x)) (ho : Ev c ρ ((D, .ints l) :: σ) o (.ref D)) (hi : Ev c ρ ((D, .ints l) :: σ) i (.int k)) (h0 : 0 ≤ k) (h1 : k < l.length) (hfit : l.length < 1000000)
    (rest_ : Ex c rest ρ ((D, .ints (l.set k.toNat x)) :: σ) R V) (hsw : swapsWith e (some (.Subscript o i tp)) pos.line c.env = Pure.pure false := by rfl) : Ex c (.Assign [.Subscript o i tp] e pos :: rest) ρ ((D, .ints l) :: σ) R V := fun s _ at_ hR hV =>
  wpAny_execs_cons (wpAny_Assign_Subscript (he s _ _ at_ fun cv tk ⟨t, e1⟩ => by
    subst e1
    exact ho _ _ _ (at_.tok tk) fun cv tk2 e2 => by
      cases e2
      exact hi _ _ _ (at_.tok tk2) fun cv tk3 ⟨u, e3⟩ => by
        subst e3
        exact setItem_any (at_.tok tk3) h0 h1 hfit fun h' tk' a' st' => Ex.after (s := s) rest_ a' st'.stay hR hV) hsw)
theorem Ex.addItem {o i e : Expr} {tp pos : Pos} {D : Addr} {l : List Int} {k x : Int} (ho : Ev c ρ ((D, .ints l) :: σ) o (.ref D)) (hi : Ev c ρ ((D, .ints l) :: σ) i (.int k)) (he : Ev c ρ ((D, .ints l) :: σ) e (.int x)) (h0 : 0 ≤ k) (h1 : k < l.length) (hfit : l.length < 1000000)
    (rest_ : Ex c rest ρ ((D, .ints (l.set k.toNat (l.getD k.toNat 0 + x))) :: σ) R V)
    (ha : ∀ ov iv new, augStore i ov iv new = (do holding [new, ov, iv] (PySem.setItem ov iv new); release [new, ov, iv] []; Pure.pure .next) := by intro _ _ _; rfl) : Ex c (.AugAssign (.Subscript o i tp) .Add e pos :: rest) ρ ((D, .ints l) :: σ) R V := fun s _ at_ hR hV =>
  wpAny_execs_cons (wpAny_AugAssign_SubscriptAny (ho s _ _ at_ fun cv tk e1 => by
    cases e1
    exact hi _ _ _ (at_.tok tk) fun cv tk2 ⟨u, e2⟩ => by
      subst e2
      obtain ⟨ob, ⟨hc, vs, n, hd, hv⟩, hg⟩ := ((at_.tok tk2).led _ (.head _)).1
      obtain ⟨t, hx⟩ := hv.get k.toNat _ (ints_getD h0 h1)
      refine wpAny_getItem_list ⟨_, hg, hc, _, hd⟩ h0 (by omega) (by simpa using hx) ?_
      exact he _ _ _ (at_.tok tk2) fun cv tk3 ⟨u3, e3⟩ => by
        subst e3
        refine iadd_int ?_
        exact setItem_any (at_.tok _) h0 h1 hfit fun h' tk' a' st' => Ex.after (s := s) rest_ a' st'.stay hR hV) ha)
/-- xs.append(e) -/
theorem Ex.append {o e : Expr} {apos cpos pos : Pos} {D : Addr} {l : List Int} {x : Int} (ho : Ev c ρ ((D, .plain l) :: σ) o (.ref D)) (he : Ev c ρ ((D, .plain l) :: σ) e (.int x)) (hsz : l.length < 1000000) (rest_ : Ex c rest ρ ((D, .plain (l ++ [x])) :: σ) R V)
    (hbase : attributeBase o (Str.ofString "append") c.env (eval o c.env) = eval o c.env := by rfl) (hline : (apos.endLine == cpos.line) = true := by rfl) (hst : starEach [e] c.env = (false, eval e c.env) :: starEach [] c.env := by rfl) (hi : interactive c.env = false := by rfl) (hsw : swapsWith (.Call (.Attribute o (Str.ofString "append") apos) [e] [] cpos) none pos.line c.env = Pure.pure false := by rfl) :
    Ex c (.Expr (.Call (.Attribute o (Str.ofString "append") apos) [e] [] cpos) pos :: rest) ρ ((D, .plain l) :: σ) R V := fun s _ at_ hR hV =>
  wpAny_execs_cons (wpAny_Expr (wpAny_Call_method_lateS hbase (by rw [hst]; rfl) hline (ho s _ _ at_ fun cv tk e1 => by
    cases e1
    obtain ⟨ob, ⟨vs, n, hob, hi⟩, hg⟩ := ((at_.tok tk).led _ (.head _)).1
    subst hob
    refine ⟨"list", "list.append", PySem.F.plainAttrs_list, slot_list_append, PySem.F.type_list_append, ⟨_, hg, rfl⟩, fun a e2 => by cases e2; exact ⟨_, hg, rfl⟩, ?_⟩
    refine callWith_method1 (EvKs.p (K := fun as σ' => as = [.int x] ∧ σ' = (D, .plain l) :: σ) he (EvKs.nil ⟨rfl, rfl⟩) (fun pos => by rw [hst]; rfl) _ _ _ cpos (at_.tok tk) fun as vs2 σ' h2 tk2 ⟨e3, e4⟩ hv2 a2 k2 => ?_) hst rfl
    subst e3; subst e4
    obtain ⟨_, rfl, u, rfl⟩ := avs_one hv2
    obtain ⟨ob2, ⟨vs3, n3, hob3, hi3⟩, hg3⟩ := (a2.led _ (.head _)).1
    subst hob3
    refine append_at (hsz := by show vs3.toArray.size ≤ sizeLine; rw [List.size_toArray, hi3.length]; exact size_of hsz) hg3 fun h5 hs5 hD5 => ?_
    have z := a2.set (tk := tk2) hs5 (o' := .plain (l ++ [x])) ⟨_, ⟨vs3 ++ [.int x u], n3 + 1, by rw [List.push_toArray], hi3.append (.cons x u .nil)⟩, hD5⟩
    exact Ex.after (s := s) rest_ z.1 (k2.trans z.2).stay hR hV)) hi hsw)
theorem EvK.plain {pos : Pos} (hK : ∀ D, K (.ref D) ((D, .plain []) :: σ)) : EvK c ρ σ (.List [] pos) K := fun s Q E at_ h =>
  List_ (EvKs.nil (K := fun as σ' => as = [] ∧ σ' = σ) ⟨rfl, rfl⟩ s _ _ pos at_ fun as vs σ' h1 tk ⟨e, e2⟩ hv a1 k1 => by
    subst e; subst e2; cases hv
    exact newList_any (o := .plain []) a1 ⟨[], _, rfl, .nil⟩ (by decide) fun D h2 tk2 a2 k2 => h _ _ _ h2 tk2 (hK D) rfl a2 (k1.trans k2))
theorem Ex.unplain {ss : List Stmt} {D : Addr} {l : List Int} (h : Ex c ss ρ ((D, .ints l) :: σ) R V) : Ex c ss ρ ((D, .plain l) :: σ) R V := fun s _ at_ hR hV => by
  have n := List.pairwise_cons.mp at_.nd
  have kp : Keep ((D, .plain l) :: σ) ((D, .ints l) :: σ) s.heap s.heap := ⟨fun _ _ e _ => e, fun p hp => .inl (by
    rcases List.mem_cons.mp hp with rfl | hp
    · exact ⟨_, .head _, rfl⟩
    · exact ⟨p, .tail _ hp, rfl⟩), fun _ e => e⟩
  exact Ex.after (s := s) (h := s.heap) (tk := s.toks) h (at_.kept (tk := s.toks) kp (fun p hp => by
    rcases List.mem_cons.mp hp with rfl | hp
    · exact (at_.led _ (.head _)).1.unplain
    · exact (at_.led p (.tail _ hp)).1) (.cons (fun q hq => n.1 q hq) n.2)) kp.stay hR hV
/-- for x, y in enumerate(e) -/
theorem Ex.forE {x y : Str} {px py tpos p cpos pos : Pos} {k : Nat} {e : Expr} {body : List Stmt} {a : Addr} {l : List Int} (Inv : Nat → Loc → Led → Prop) (hgl : Glo c ρ σ (Str.ofString "enumerate") (.type "enumerate")) (he : Ev c ρ σ e (.ref a)) (hr : Has c.k.h₀ a (.ints l)) (h0 : Inv 0 ρ σ)
    (turn : ∀ i v ρ' σ', l[i]? = some v → Inv i ρ' σ' → Ex c body ((y, .int v) :: (x, .int i) :: ρ') σ' (Inv (i + 1)) V) (done : ∀ ρ' σ', Inv l.length ρ' σ' → Ex c rest ρ' σ' R V) (hx : Sto c x := by exact Or.inl rfl) (hy : Sto c y := by exact Or.inl rfl)
    (hfs : ∀ v, foldedSetIterable (.Call (.Name (Str.ofString "enumerate") p) [e] [] cpos) c.env v = Pure.pure v := by intro _; rfl) (hs : starEach [e] c.env = [(false, eval e c.env)] := by rfl) :
    Ex c (.For (.Tuple [.Name x px, .Name y py] k tpos) (.Call (.Name (Str.ofString "enumerate") p) [e] [] cpos) body [] pos :: rest) ρ σ R V := fun s Q at_ hR hV => by
  refine wpAny_execs_cons (wpAny_For (Call_Name1 (hgl s _ _ _ at_ (PySem.callWith_type1 (he s _ _ at_ fun cv tk e1 => ?_))) hs) hfs)
  cases e1
  obtain ⟨ob, ⟨hc, vs, n, hd, hi⟩, hg⟩ := hr
  have hgs := at_.keep _ _ hg
  have hls : s.heap.IsList a vs.toArray := ⟨_, hgs, hc, _, hd⟩
  refine call_enumerate_list (s := { s with toks := tk }) hls fun h1 hE hit hz up => ?_
  refine wpAny_pyIter_enum hE ?_
  have hvl : vs.toArray.size = l.length := by rw [List.size_toArray, hi.length]
  have hlt : a < s.heap.objs.size := Heap.lt_size hgs
  have W := WalksT.enumerate (prog := PySem.Challenge.rw_xm0082_01.row.prog) (w := c.k.w) (A := c.A) rfl (s.heap.objs.size + 1) s.heap.objs.size a (Nat.ne_of_gt (Nat.lt_succ_self _)) (Nat.ne_of_lt (Nat.lt_succ_of_lt hlt)) (Nat.ne_of_lt hlt) vs.toArray
  rw [hvl] at W
  have nE : s.heap.get? (s.heap.objs.size + 1) = none := Heap.get?_none_of_le (Nat.le_succ _)
  have nI : s.heap.get? s.heap.objs.size = none := get_next
  have nw : ∀ J ∈ [s.heap.objs.size + 1, s.heap.objs.size], s.heap.get? J = none := fun J hJ => by
    rcases List.mem_cons.mp hJ with rfl | hJ
    · exact nE
    · rw [List.mem_singleton.mp hJ]; exact nI
  have hu : ∀ b o, s.heap.get? b = some o → h1.get? b = some o := up
  have at1 : At c ρ σ { s with heap := h1, toks := tk } := at_.keeps (tk := tk) hu
  obtain ⟨oi, hoi, _⟩ := id hit
  have sf : ∀ b ∈ [s.heap.objs.size + 1, s.heap.objs.size, a], Safe c σ h1 b := fun b hb => by
    rcases List.mem_cons.mp hb with rfl | hb
    · exact Safe.fresh at_ nE ⟨_, hE⟩
    rcases List.mem_cons.mp hb with rfl | hb
    · exact Safe.fresh at_ nI ⟨_, hoi⟩
    · rw [List.mem_singleton.mp hb]; exact Safe.below at_ hg hu
  have wr : ∀ {σ' : Led} {h' : Heap}, (∀ b ∈ [s.heap.objs.size + 1, s.heap.objs.size, a], Safe c σ' h' b) → ∀ J ∈ [s.heap.objs.size + 1, s.heap.objs.size], Safe c σ' h' J ∧ c.k.h₀.get? J = none := fun q J hJ => ⟨q J (W.sub J hJ), at_.fresh (nw J hJ)⟩
  refine codeAny_forLoop_any (fun k s' => ∃ i ρ' σ' h' tk', s' = { s with heap := h', toks := tk' } ∧ i ≤ l.length ∧ k = l.length + 1 - i ∧ Inv i ρ' σ' ∧ At c ρ' σ' { s with heap := h', toks := tk' } ∧ Stay c σ σ' s.heap h' ∧ ((∃ old, IsEnum h' (s.heap.objs.size + 1) s.heap.objs.size i old) ∧ h'.IsListIter s.heap.objs.size a i ∧ h'.IsList a vs.toArray) ∧ (∀ b ∈ [s.heap.objs.size + 1, s.heap.objs.size, a], Safe c σ' h' b)) ?_ (l.length + 1)
    ⟨0, ρ, σ, h1, tk, rfl, Nat.zero_le _, rfl, h0, at1, (Keep.of hu).stay, ⟨⟨_, hE⟩, hit, ⟨_, hu _ _ hgs, hc, _, hd⟩⟩, sf⟩
  rintro k s' ⟨i, ρ', σ', h', tk', rfl, hin, rfl, hInv, a', st', hst', sf'⟩
  by_cases hlt : i < l.length
  · refine W.item i _ _ _ hlt hst' fun T vals h2 tk2 hP hTs hT hM hk2 => ?_
    obtain ⟨t, v, hv, rfl⟩ := hP
    obtain ⟨m, u, e2, hm⟩ := IntsAre.at hi i v (by simpa using hv)
    have a2 : At c ρ' σ' { s with heap := h2, toks := tk2 } := a'.but (tk := tk2) (wr sf') hk2
    have hex2 : ∀ J ∈ [s.heap.objs.size + 1, s.heap.objs.size], ∃ o, h2.get? J = some o := fun J hJ => by
      obtain ⟨⟨x, hx⟩, ⟨o2, ho2, _⟩, _⟩ := hM
      rcases List.mem_cons.mp hJ with rfl | hJ
      · exact ⟨_, hx⟩
      · rw [List.mem_singleton.mp hJ]; exact ⟨_, ho2⟩
    have sf2 : ∀ b ∈ [s.heap.objs.size + 1, s.heap.objs.size, a], Safe c σ' h2 b := fun b hb => (sf' b hb).item hk2 hex2
    have hTw := W.apart _ _ _ hM
    refine W.go _ _ _ i T _ _ _ hM fun h3 hst3 hk3 => ?_
    have a3 : At c ρ' σ' { s with heap := h3, toks := tk2 } := a2.but (tk := tk2) (wr sf2) hk3
    have hex3 : ∀ J ∈ [s.heap.objs.size + 1, s.heap.objs.size], ∃ o, h3.get? J = some o := fun J hJ => by
      obtain ⟨⟨x, hx⟩, ⟨o2, ho2, _⟩, _⟩ := hst3
      rcases List.mem_cons.mp hJ with rfl | hJ
      · exact ⟨_, hx⟩
      · rw [List.mem_singleton.mp hJ]; exact ⟨_, ho2⟩
    have sf3 : ∀ b ∈ [s.heap.objs.size + 1, s.heap.objs.size, a], Safe c σ' h3 b := fun b hb => (sf2 b hb).item hk3 hex3
    obtain ⟨oT, hoT, rT⟩ := hT
    refine wpAny_assign_Tuple rfl (show h3.IsTuple T _ from ⟨oT, hk3 _ _ hTw hoT, rT⟩) rfl rfl fun h4 hx4 => ?_
    have up4 : ∀ b o, h3.get? b = some o → h4.get? b = some o := fun b o e => hx4 b o (Nat.ne_of_lt (Heap.lt_size e)) e
    have a4 : At c ρ' σ' { s with heap := h4, toks := tk2 } := a3.keeps (tk := tk2) (s := { s with heap := h3, toks := tk2 }) up4
    have st4 : Stay c σ σ' s.heap h4 := (stay_but hk3 nw (stay_but hk2 nw st')).trans (Keep.of up4).stay
    refine (Tg.cons (x := x) (px := px) (Tg.cons (x := y) (px := py) Tg.nil hy) hx).2.2 { s with heap := h4, toks := tk2 } σ' _ _ _ a4 (.cons (show (AV.int (i : Int)).of _ from ⟨t, rfl⟩) (.cons (show (AV.int m).of v from ⟨u, e2⟩) .nil)) fun h5 tk5 a5 st5 => ?_
    have sf4 : ∀ b ∈ [s.heap.objs.size + 1, s.heap.objs.size, a], Safe c σ' h4 b := fun b hb => (sf3 b hb).stay (Keep.of up4).stay
    refine wpAny_mono (turn i m ρ' σ' hm hInv _ (fun f s₃ => match f with
          | .next | .cont => ∃ m, m < l.length + 1 - i ∧ ∃ i ρ' σ' h' tk', s₃ = { s with heap := h', toks := tk' } ∧ i ≤ l.length ∧ m = l.length + 1 - i ∧ Inv i ρ' σ' ∧ At c ρ' σ' { s with heap := h', toks := tk' } ∧ Stay c σ σ' s.heap h' ∧ ((∃ old, IsEnum h' (s.heap.objs.size + 1) s.heap.objs.size i old) ∧ h'.IsListIter s.heap.objs.size a i ∧ h'.IsList a vs.toArray) ∧ (∀ b ∈ [s.heap.objs.size + 1, s.heap.objs.size, a], Safe c σ' h' b)
          | .brk => False
          | .ret v => Q (.ret v) s₃) a5 (fun ρ6 σ6 h6 tk6 inv a6 st6 => ?_) fun v cv ρ6 σ6 h6 tk6 r hcv a6 st6 => ?_) (fun f s₃ p => ?_) fun _ _ x => x.elim
    · exact ⟨l.length + 1 - (i + 1), by omega, i + 1, ρ6, σ6, h6, tk6, rfl, hlt, rfl, inv, a6, (st4.trans st5).trans st6, W.frame _ _ _ hst3 fun b hb o e => ((sf4 b hb).stay st5).kept st6 o ((sf4 b hb).kept st5 o (up4 _ _ e)), fun b hb => ((sf4 b hb).stay st5).stay st6⟩
    · exact hV v cv ρ6 σ6 h6 tk6 r hcv a6 ((st4.trans st5).trans st6)
    · cases f with
      | next => exact p
      | cont => exact p
      | brk => exact p.elim
      | ret v => exact p
  · obtain rfl : i = l.length := Nat.le_antisymm hin (Nat.not_lt.mp hlt)
    refine W.done _ _ _ hst' fun h2 tk2 hk2 => ?_
    refine wpAny_execs_nil ?_
    exact Ex.after (s := s) (done ρ' σ' hInv) (a'.but (tk := tk2) (wr sf') hk2) (stay_but hk2 nw st') hR hV
end
end Mine.E
namespace Mine.E
section
variable {c : Cx} {ρ : Loc} {σ : Led} {K : AV → Led → Prop}
theorem cl_nil {cs : List (Str × Addr)} : ∀ y b, ([] : List (Str × Addr)).lookup y = some b → cs.lookup y = some b := fun _ _ h => nomatch h
theorem cl_cons {cs cl : List (Str × Addr)} {x : Str} {a : Addr} (h : cs.lookup x = some a) (r : ∀ y b, cl.lookup y = some b → cs.lookup y = some b) : ∀ y b, ((x, a) :: cl).lookup y = some b → cs.lookup y = some b := fun y b e => by
  by_cases q : y = x
  · subst q
    simp only [List.lookup_cons, beq_self_eq_true] at e
    cases e; exact h
  · rw [List.lookup_cons, beq_eq_false_iff_ne.mpr q] at e
    exact r y b e
theorem ro_nil {P : Str → AV → Prop} : ∀ y v, ([] : Loc).lookup y = some v → P y v := fun _ _ h => nomatch h
theorem ro_cons {P : Str → AV → Prop} {ρ₀ : Loc} {x : Str} {a : AV} (h : P x a) (r : ∀ y v, ρ₀.lookup y = some v → P y v) : ∀ y v, ((x, a) :: ρ₀ : Loc).lookup y = some v → P y v := fun y v e => by
  by_cases q : y = x
  · subst q
    simp only [List.lookup_cons, beq_self_eq_true] at e
    cases e; exact h
  · rw [List.lookup_cons, beq_eq_false_iff_ne.mpr q] at e
    exact r y v e
theorem range_snoc (g : Nat → Int) (i : Nat) : (List.range (i + 1)).map (fun j => AV.int (g j)) = (List.range i).map (fun j => AV.int (g j)) ++ [.int (g i)] := by rw [List.range_succ, List.map_append]; rfl
/-- a comprehension of ints -/
theorem EvK.compI {elt iter : Expr} {x : Str} {px pos : Pos} {scope : Scope} {n : Nat} {P : Nat → AV → Prop} {cl : List (Str × Addr)} {ρ₀ : Loc} (g : Nat → Int) (hsrc : Src c ρ σ iter n P) (hclos : closureFor scope c.env = Pure.pure cl)
    (hcl : ∀ y b, cl.lookup y = some b → c.env.cells.lookup y = some b) (hρ : ∀ y v, ρ₀.lookup y = some v → ρ.lookup y = some v ∧ c.env.kindOf y = some .cell ∧ (relabel scope c.env).names.lookup y = some .cell ∧ cl.lookup y = c.env.cells.lookup y) (hn : n < 1000000)
    (turn : ∀ C i a, i < n → P i a → EvK ⟨c.k, compEnvC scope cl C c.env⟩ ((x, a) :: ρ₀) σ elt (fun y σ'' => y = .int (g i) ∧ σ'' = σ)) (hK : ∀ D, K (.ref D) ((D, .ints ((List.range n).map g)) :: σ))
    (hcell : ∀ y ∈ scope.names, y.2 ≠ .cell := by decide) (hkind : scope.kind = .function := by rfl) (hnames : ∀ y ∈ scope.names, y.2 = .local → scope.names.lookup y.1 = some .local := by decide) (hx : scope.names.lookup x = some .local := by rfl) (hxρ : ρ₀.lookup x = none := by rfl)
    (hfs : ∀ v, foldedSetIterable iter c.env v = Pure.pure v := by intro _; rfl) : EvK c ρ σ (.ListComp elt [⟨.Name x px, iter, [], 0⟩] scope pos) K :=
  EvK.comp (fun i ys σ' => ys = (List.range i).map (fun j => AV.int (g j)) ∧ σ' = σ) hsrc hclos hcell hkind hnames hx hcl hρ hxρ hn ⟨rfl, rfl⟩
    (fun C i a ys σ' hi hP ⟨h1, h2⟩ => by subst h1; subst h2; exact (turn C i a hi hP).mono fun y σ'' ⟨e1, e2⟩ => ⟨by rw [e1, range_snoc], e2⟩)
    (fun ys σ' ⟨h1, h2⟩ => .inr ⟨(List.range n).map g, by rw [h1, List.map_map]; rfl, h2 ▸ hK⟩) hfs
theorem small_up {a b : Int} (h : -1000000 < a ∧ a < 1000000 ∧ -1000000 < b ∧ b < 1000000) : Builtin.Range.small a b 1 = true := small_one (by omega) (by omega) (by omega) (by omega)
/-- range(b), range(a, b) -/
theorem Src.to {p pos : Pos} {e : Expr} {b : Int} (n : Nat) (hg : Glo c ρ σ (Str.ofString "range") (.type "range")) (he : Ev c ρ σ e (.int b)) (h1 : -1000000 < b ∧ b < 1000000) (hn : b.toNat = n)
    (hs : starEach [e] c.env = (false, eval e c.env) :: starEach [] c.env := by rfl) : Src c ρ σ (.Call (.Name (Str.ofString "range") p) [e] [] pos) n (fun i x => x = .int (i : Int)) := fun s Q E at_ k =>
  Src.range (a := 0) (b := b) (d := 1) (n := n) hg (EvKs.p he (EvKs.nil ⟨rfl, .inl ⟨rfl, rfl, rfl⟩⟩) (fun _ => by rw [hs]; rfl)) (small_up ⟨by decide, by decide, h1⟩) ((rangeSize_nat 0 b).trans (by rw [Int.sub_zero, hn])) hs rfl s Q E at_ fun I fp St h tk W => k I fp St h tk (walks_map W fun i v ⟨x, e, hx⟩ => ⟨x, by rw [e]; simp, hx⟩)
theorem Src.fromTo {p pos : Pos} {e e2 : Expr} {a b : Int} (n : Nat) (hg : Glo c ρ σ (Str.ofString "range") (.type "range")) (he : Ev c ρ σ e (.int a)) (he2 : Ev c ρ σ e2 (.int b)) (h1 : -1000000 < a ∧ a < 1000000 ∧ -1000000 < b ∧ b < 1000000) (hn : (b - a).toNat = n)
    (hs : starEach [e, e2] c.env = (false, eval e c.env) :: starEach [e2] c.env := by rfl) (hs2 : starEach [e2] c.env = (false, eval e2 c.env) :: starEach [] c.env := by rfl) : Src c ρ σ (.Call (.Name (Str.ofString "range") p) [e, e2] [] pos) n (fun i x => x = .int (a + (i : Int))) := fun s Q E at_ k =>
  Src.range (a := a) (b := b) (d := 1) (n := n) hg (EvKs.p he (EvKs.p he2 (EvKs.nil ⟨rfl, .inr (.inl ⟨rfl, rfl⟩)⟩) (fun _ => by rw [hs2]; rfl)) (fun _ => by rw [hs]; rfl)) (small_up h1) ((rangeSize_nat a b).trans (by rw [hn])) hs (by rw [hs2]; rfl) s Q E at_ fun I fp St h tk W => k I fp St h tk (walks_map W fun i v ⟨x, e, hx⟩ => ⟨x, by rw [e]; simp, hx⟩)
theorem small_down {a b : Int} (h : -1000000 < a ∧ a < 1000000 ∧ -1000000 < b ∧ b < 1000000) : Builtin.Range.small a b (-1) = true := by
  unfold Builtin.Range.small
  rw [rangeSize_down]
  simp only [Builtin.Range.rangeFitsLong, Bool.and_eq_true, Bool.or_eq_true, decide_eq_true_eq, beq_iff_eq, show ¬ (-1 : Int) > 0 by decide, if_false]
  split <;> omega
/-- range(a, b, -1) -/
theorem Src.down {p pos : Pos} {e e2 e3 : Expr} {a b : Int} (n : Nat) (hg : Glo c ρ σ (Str.ofString "range") (.type "range")) (he : Ev c ρ σ e (.int a)) (he2 : Ev c ρ σ e2 (.int b)) (he3 : Ev c ρ σ e3 (.int (-1))) (h1 : -1000000 < a ∧ a < 1000000 ∧ -1000000 < b ∧ b < 1000000) (hn : (a - b).toNat = n)
    (hs : starEach [e, e2, e3] c.env = (false, eval e c.env) :: starEach [e2, e3] c.env := by rfl) (hs2 : starEach [e2, e3] c.env = (false, eval e2 c.env) :: starEach [e3] c.env := by rfl) (hs3 : starEach [e3] c.env = (false, eval e3 c.env) :: starEach [] c.env := by rfl) : Src c ρ σ (.Call (.Name (Str.ofString "range") p) [e, e2, e3] [] pos) n (fun i x => x = .int (a - (i : Int))) := fun s Q E at_ k =>
  Src.range (a := a) (b := b) (d := -1) (n := n) hg (EvKs.p he (EvKs.p he2 (EvKs.p he3 (EvKs.nil ⟨rfl, .inr (.inr ⟨rfl, rfl⟩)⟩) (fun _ => by rw [hs3]; rfl)) (fun _ => by rw [hs2]; rfl)) (fun _ => by rw [hs]; rfl)) (small_down h1) ((rangeSize_downNat a b).trans (by rw [hn])) hs (by rw [hs2, hs3]; rfl) s Q E at_ fun I fp St h tk W => k I fp St h tk (walks_map W fun i v ⟨x, e, hx⟩ => ⟨x, by rw [e, show a + (i : Int) * -1 = a - i by omega], hx⟩)
end
end Mine.E
namespace Mine.E
theorem bind2 {fd : FuncData} {x y : Str} (h : ∀ a b, bindArgs fd ⟨[a, b], []⟩ = pure [(x, a), (y, b)]) (s : Shared) (vs : List Value) (hl : vs.length = [x, y].length) : BindsTo s fd ⟨vs, []⟩ ([x, y].zip vs) := by
  match vs, hl with
  | [a, b], _ => exact BindsTo.of_eq (h a b)
theorem bind1 {fd : FuncData} {x : Str} (h : ∀ a, bindArgs fd ⟨[a], []⟩ = pure [(x, a)]) (s : Shared) (vs : List Value) (hl : vs.length = [x].length) : BindsTo s fd ⟨vs, []⟩ ([x].zip vs) := by
  match vs, hl with
  | [a], _ => exact BindsTo.of_eq (h a)
theorem bind3 {fd : FuncData} {x y z : Str} (h : ∀ a b d, bindArgs fd ⟨[a, b, d], []⟩ = pure [(x, a), (y, b), (z, d)]) (s : Shared) (vs : List Value) (hl : vs.length = [x, y, z].length) : BindsTo s fd ⟨vs, []⟩ ([x, y, z].zip vs) := by
  match vs, hl with
  | [a, b, d], _ => exact BindsTo.of_eq (h a b d)
theorem mul_small {x y : Int} (h : y.natAbs < 1073741824) : IntMulOk x y := by mul_fits
end Mine.E
namespace Mine.E
section
variable {c : Cx} {ρ : Loc} {σ : Led} {R : Loc → Led → Prop} {V : AV → Led → Prop}
theorem At.perm {σ' : Led} {s : Shared} (a : At c ρ σ s) (h : σ'.Perm σ) : At c ρ σ' s := { a with led := fun p hp => a.led p (h.mem_iff.mp hp), nd := (List.Perm.pairwise_iff (fun {_ _} h => Ne.symm h) h.symm).mp a.nd }
/-- the ledger in another order -/
theorem Ex.perm {ss : List Stmt} {σ' : Led} (h : σ'.Perm σ) (x : Ex c ss ρ σ' R V) : Ex c ss ρ σ R V := fun s _ at_ hR hV =>
  Ex.after (s := s) (h := s.heap) (tk := s.toks) x (at_.perm h) (Keep.refl.sub fun _ hp => h.mem_iff.mp hp).stay hR hV
theorem Tst.or2 {x y : Expr} {pos : Pos} {b1 b2 : Bool} (h1 : Tst c ρ σ x b1) (h2 : b1 = false → Tst c ρ σ y b2) : Tst c ρ σ (.BoolOp .Or [x, y] pos) (b1 || b2) := by
  cases b1 with
  | true => exact Tst.orT h1
  | false =>
    cases b2 with
    | true => exact Tst.orF h1 (Tst.orT (h2 rfl))
    | false => exact Tst.orF h1 (Tst.orF (h2 rfl) Tst.orNil)
theorem mul_midL {x y : Int} (h : -1152921504606846976 < x ∧ x < 1152921504606846976) : IntMulOk x y := by mul_fits
theorem mul_mid {x y : Int} (h : -1152921504606846976 < y ∧ y < 1152921504606846976) : IntMulOk x y := by mul_fits
end
end Mine.E
namespace Mine.E
/-- the items of a list or a tuple -/
def AO.row : AO → List AV
  | .ints l => l.map .int
  | .plain l => l.map .int
  | .tup l => l
  | .lst l => l
theorem Has.row {h : Heap} {a : Addr} {o : AO} (x : Has h a o) : ∃ vs, AVs o.row vs ∧ (IsTup h a vs.toArray ∨ h.IsList a vs.toArray) := by
  match o, x with
  | .ints l, x => obtain ⟨vs, h1, h2⟩ := x.list; exact ⟨vs, .of_ints h2, .inr h1⟩
  | .plain l, x => obtain ⟨vs, h1, h2⟩ := x.unplain.list; exact ⟨vs, .of_ints h2, .inr h1⟩
  | .tup l, x => obtain ⟨vs, h1, h2⟩ := x.tup; exact ⟨vs, h2, .inl h1⟩
  | .lst l, x => obtain ⟨vs, h1, h2⟩ := x.alist; exact ⟨vs, h2, .inr h1⟩
section
variable {c : Cx} {ρ : Loc} {σ : Led} {K : AV → Led → Prop}
/-- e[i], whatever e makes -/
theorem EvK.sub {e i : Expr} {pos : Pos} (he : EvK c ρ σ e fun x σ₁ => ∃ a o k v, x = .ref a ∧ Ev c ρ σ₁ i (.int k) ∧ Rd c σ₁ a o ∧ 0 ≤ k ∧ o.row[k.toNat]? = some v ∧ o.row.length < 1000000 ∧ K v σ₁)
    (hs : ∀ (a : Addr) (k : Int) (u : Tok), subscripted i false (.ref a) (.int k u) = operate [.ref a, .int k u] (getItem (.ref a) (.int k u)) := by intro _ _ _; with_unfolding_all rfl) : EvK c ρ σ (.Subscript e i pos) K := fun s Q E at_ h =>
  Subscript_ (he s _ _ at_ fun x cv σ₁ h1 tk ⟨a, o, k, v, e1, hi, hr, h0, hv, hfit, hK⟩ hx a1 k1 => by
    subst e1; cases hx
    exact hi _ _ _ a1 fun cv tk2 ⟨u, e2⟩ => by
      subst e2
      obtain ⟨vs, hvs, hab⟩ := (hr.has (a1.tok tk2)).row
      obtain ⟨w, hw, hwv⟩ := hvs.get hv
      have hlt : k.toNat < o.row.length := (List.getElem?_eq_some_iff.mp hv).1
      have hl := hvs.length
      refine kba_turn (value' := PySem.Expr.Name (PySem.Str.ofString "_") ⟨0, 0, 0, 0⟩) (fun _ => rfl) ?_
      rcases hab with ht | hl2
      · exact item_tupleL ht (by omega) (by omega) (j := k.toNat) (seqIndex_of h0 (by omega)) hw (h _ _ _ _ tk2 hK hwv (a1.tok tk2) k1) (hs a k u) (fun _ => rfl)
      · exact item_listL hl2 h0 (by omega) hw (h _ _ _ _ tk2 hK hwv (a1.tok tk2) k1) (hs a k u) (fun _ => rfl))
end
end Mine.E
namespace Mine.E
theorem AVs.set {as : List AV} {vs : List Value} (h : AVs as vs) {a : AV} {v : Value} (hv : a.of v) : ∀ k, AVs (as.set k a) (vs.set k v) := by
  induction h with
  | nil => intro k; exact .nil
  | cons h1 h2 ih =>
    intro k
    cases k with
    | zero => exact .cons hv h2
    | succ k => exact .cons h1 (ih k)
/-- some of the heap's objects -/
def sel (h : Heap) (P : Addr → Bool) : Heap := { h with objs := h.objs.mapIdx fun i o => if P i then o else { cls := .none, data := .freed } }
theorem sel_get {h : Heap} {P : Addr → Bool} {b : Addr} : (sel h P).get? b = if P b then h.get? b else none := by
  unfold Heap.get? sel
  simp only [Array.getElem?_mapIdx]
  cases h.objs[b]? with
  | none => simp
  | some o => cases hp : P b <;> simp [hp]
theorem sel_up {h : Heap} {P : Addr → Bool} : ∀ b o, (sel h P).get? b = some o → h.get? b = some o := fun b o e => by
  rw [sel_get] at e
  split at e
  · exact e
  · cases e
theorem sel_in {h : Heap} {P : Addr → Bool} {b : Addr} (hp : P b = true) : (sel h P).get? b = h.get? b := by rw [sel_get, if_pos hp]
theorem sel_out {h : Heap} {P : Addr → Bool} {b : Addr} (hp : P b = false) : (sel h P).get? b = none := by rw [sel_get, hp]; rfl
/-- what a def does that turns the objects σ₀ of its caller -/
def FunM (r : Nat) (x : Str) (as : List AV) (σ₀ : Led) (V : AV → Led → Prop) : Prop :=
  ∀ (w : World) (s : Shared) (vs : List Value), AVs as vs → ∀ {dp un : Nat} {gd : Option (List Code)} {A₀ : Around} {base h₀ : Heap} {outer : List Env} {env : Env} {L f : Addr} {m : Str → Option Value} {mean : ExcName → Option Value} {mg mb : Str → Option Value} {Q E : Value → Shared → Prop},
    Below A₀ base outer h₀ → Fr h₀ L s.heap m → R0At h₀ → Top vw (looseW vw []) mean mg mb h₀ → mg x = some (.ref f) → env.frame = some L → env.scope.kind = .function →
    dp + r < recursionLimit → un + 8 * r < cLine → (∀ p ∈ σ₀, Has s.heap p.1 p.2 ∧ p.1 ≠ L ∧ h₀.get? p.1 = none) → (σ₀.Pairwise fun p q => p.1 ≠ q.1) →
    (∀ v cv σ₁ h' tk', V v σ₁ → v.of cv → Keep σ₀ σ₁ s.heap h' → (∀ p ∈ σ₁, Has h' p.1 p.2) → (σ₁.Pairwise fun p q => p.1 ≠ q.1) → Q cv { s with heap := h', toks := tk' }) →
    wpAny (model PySem.Challenge.rw_xm0082_01.row.prog w) { handled := none, depth := dp, frames := some (env :: outer), guards := gd, units := un } (call (.ref f) vs) Q E s
section
variable {c : Cx} {ρ : Loc} {σ : Led} {R : Loc → Led → Prop} {V : AV → Led → Prop} {rest : List Stmt}
theorem EvK.callM {x : Str} {p pos : Pos} {e : Expr} {es : List Expr} {r q : Nat} {bs : Led} {K : AV → Led → Prop} (hd : Def x) (go : Go c.k q bs) (hr : r < q)
    (ha : EvKs c ρ σ (e :: es) fun as σ' => ∃ σ₀ σr V, (σ₀ ++ σr).Perm σ' ∧ FunM r x as σ₀ V ∧ ∀ v σ₁, V v σ₁ → K v (σ₁ ++ σr))
    (he : starEach (e :: es) c.env = (false, eval e c.env) :: starEach es c.env := by rfl) (hx : c.env.kindOf x = some .globalImplicit := by rfl) (hg : c.env.globals = mainGlobals := by rfl) (hdb : (x == ("__debug__" : Str)) = false := by decide) : EvK c ρ σ (.Call (.Name x p) (e :: es) [] pos) K := fun s Q E at_ k =>
  call_any hd ha at_ (fun f as vs σ' h' tk hmg ⟨σ₀, σr, V, e1, hF, hK⟩ hvs a1 k1 => by
    replace a1 := a1.perm e1
    replace k1 := k1.sub fun p (hp : p ∈ σ₀ ++ σr) => e1.mem_iff.mp hp
    obtain ⟨m, F⟩ := a1.fr
    have h1 := go.room
    have h2 := go.units
    have nd := List.pairwise_append.mp a1.nd
    refine hF c.k.w _ vs hvs a1.ok.B F a1.ok.X a1.ok.T hmg a1.ok.hf a1.ok.hk (by omega) (by omega) (fun p hp => ?_) nd.1 fun v cv σ₁ h2 tk2 hV hv kp hl nd1 => ?_
    · obtain ⟨q1, q2, _, q4⟩ := a1.led p (List.mem_append_left _ hp)
      exact ⟨q1, q2, q4⟩
    · have kp2 : Keep (σ₀ ++ σr) (σ₁ ++ σr) h' h2 := ⟨fun b o e h4 => kp.keep b o e fun p hp => h4 p (List.mem_append_left _ hp), fun p hp => by
        rcases List.mem_append.mp hp with hp | hp
        · exact (kp.new p hp).imp (fun ⟨q, hq, e⟩ => ⟨q, List.mem_append_left _ hq, e⟩) id
        · exact .inl ⟨p, List.mem_append_right _ hp, rfl⟩, kp.grow⟩
      refine k v cv _ h2 tk2 (hK v σ₁ hV) hv (a1.kept (tk := tk2) kp2 (fun p hp => ?_) (List.pairwise_append.mpr ⟨nd1, nd.2.1, fun p hp q hq e => ?_⟩)) (k1.trans kp2)
      · rcases List.mem_append.mp hp with hp | hp
        · exact hl p hp
        · exact (a1.led p (List.mem_append_right _ hp)).1.mono fun ob e => kp.keep _ ob e fun q hq e2 => nd.2.2 q hq p hp e2
      · rcases kp.new p hp with ⟨p', hp', e2⟩ | e2
        · exact nd.2.2 p' hp' q hq (e2.trans e)
        · obtain ⟨ob, _, _, hgq, _⟩ := (a1.led q (List.mem_append_right _ hq)).1.seq
          rw [e] at e2
          exact absurd (e2.symm.trans hgq) (by simp)) he hx hg hdb
theorem FunM.intro {r : Nat} {as : List AV} {σ₀ : Led} {V : AV → Led → Prop} {qual : Str} {params : Arguments} {body : List Stmt} {scope : Scope} {dpos : Pos} {xs : List Str} {ρ : Loc} (i : Nat)
    (hin : [1, 3, 4, 5, 6, 8, 9, 10, 11, 12, 13, 14, 15, 17, 19, 20, 21, 22, 27, 28, 29, 31, 32, 33, 35, 36, 37, 38].contains i = true) (hrec : recAt i = ⟨qual, params, body, scope, dpos⟩)
    (hbind : ∀ pm cdv doc s vs, vs.length = xs.length → BindsTo s (docDef qual params body scope pm cdv doc) ⟨vs, []⟩ (xs.zip vs))
    (hkind : (xs.all fun y => scope.names.lookup y == some .local || scope.names.lookup y == some .cell) = true) (hxs : xs.Nodup) (hlen : as.length = xs.length) (hρ : xs.zip as = ρ)
    (hco : scope.isCoroutine = false) (hgen : scope.isGenerator = false) (hk : scope.kind = .function)
    (hb : ∀ k f cdv, Go k r [] → Ex ⟨k, envOfC qual scope k.L f cdv⟩ body ρ σ₀ (fun _ _ => False) V) : FunM r qual as σ₀ V := by
  intro w s vs hvs dp un gd A₀ base h₀ outer env L f m mean mg mb Q E B F X T hmg hf hke hd hu hσ hnd hret
  let P : Addr → Bool := fun i => (h₀.get? i).isSome || i == L
  have PL : P L = true := by simp [P]
  have PK : ∀ b o, h₀.get? b = some o → P b = true := fun b o e => by simp [P, e]
  have PN : ∀ b, h₀.get? b = none → b ≠ L → P b = false := fun b e h => by simp [P, e, h]
  have Fg : Fr h₀ L (sel s.heap P) m := ⟨F.ns.at' fun o e => (sel_in PL).trans e, fun b o e => (sel_in (PK b o e)).trans (F.keep b o e), F.above⟩
  have B₁ := pushX B Fg hf hke
  exact enter (A₀ := { handled := none, depth := dp, frames := some (env :: outer), guards := gd, units := un }) (g := sel s.heap P) i hin hrec hbind hkind hxs hlen hρ hco hgen hk sel_up (by show (s.heap.objs.mapIdx _).size ≤ s.heap.objs.size; rw [Array.size_mapIdx]; exact Nat.le_refl _) ⟨rfl, B₁.stays, B₁.frames⟩ (X.keeps Fg.keep) (T.keeps Fg.keep) hmg hd hu hvs
    (hs := []) (fun _ h => absurd h List.not_mem_nil) (fun p hp => ⟨(hσ p hp).1, sel_out (PN _ (hσ p hp).2.2 (hσ p hp).2.1)⟩) hnd hb hret
theorem setItem_lst {s : Shared} {Q : Unit → Shared → Prop} {E : Value → Shared → Prop} {D : Addr} {l : List AV} {k : Int} {v : AV} {cv : Value} {t : Tok} (at_ : At c ρ ((D, .lst l) :: σ) s) (hv : v.of cv) (h0 : 0 ≤ k) (h1 : k < l.length) (hfit : l.length < 1000000)
    (h : ∀ h' tk, At c ρ ((D, .lst (l.set k.toNat v)) :: σ) { s with heap := h', toks := tk } → Keep ((D, .lst l) :: σ) ((D, .lst (l.set k.toNat v)) :: σ) s.heap h' → Q () { s with heap := h', toks := tk }) :
    wpAny c.M c.A (setItem (.ref D) (.int k t) cv) Q E s := by
  obtain ⟨ob, ⟨hc, vs, n, hd, hi⟩, hg⟩ := (at_.led _ (.head _)).1
  have hl : s.heap.IsList D vs.toArray := ⟨_, hg, hc, _, hd⟩
  have hlen := hi.length
  refine wpAny_setItem_list hl h0 (by omega) (by rw [List.size_toArray, hlen]; exact h1) fun h' hl' hs => ?_
  obtain ⟨ob', hg', hc', n', hd'⟩ := hl'
  have z := at_.set (tk := s.toks) hs (o' := .lst (l.set k.toNat v)) ⟨ob', ⟨hc', vs.set k.toNat cv, n', by rw [hd']; simp, hi.set hv k.toNat⟩, hg'⟩
  exact h h' s.toks z.1 z.2
theorem Ex.setLst {o i e : Expr} {tp pos : Pos} {D : Addr} {l : List AV} {k : Int} {v : AV} (he : Ev c ρ ((D, .lst l) :: σ) e v) (ho : Ev c ρ ((D, .lst l) :: σ) o (.ref D)) (hi : Ev c ρ ((D, .lst l) :: σ) i (.int k)) (h0 : 0 ≤ k) (h1 : k < l.length) (hfit : l.length < 1000000)
    (rest_ : Ex c rest ρ ((D, .lst (l.set k.toNat v)) :: σ) R V) (hsw : swapsWith e (some (.Subscript o i tp)) pos.line c.env = Pure.pure false := by rfl) : Ex c (.Assign [.Subscript o i tp] e pos :: rest) ρ ((D, .lst l) :: σ) R V := fun s _ at_ hR hV =>
  wpAny_execs_cons (wpAny_Assign_Subscript (he s _ _ at_ fun cv tk e1 =>
    ho _ _ _ (at_.tok tk) fun cv2 tk2 e2 => by
      cases e2
      exact hi _ _ _ (at_.tok tk2) fun cv3 tk3 ⟨u, e3⟩ => by
        subst e3
        exact setItem_lst (at_.tok tk3) e1 h0 h1 hfit fun h' tk' a' st' => Ex.after (s := s) rest_ a' st'.stay hR hV) hsw)
theorem EvK.abs {p pos : Pos} {e : Expr} {K : AV → Led → Prop} (hg : Glo c ρ σ (Str.ofString "abs") (.builtin "abs")) (he : EvK c ρ σ e fun v σ' => ∃ x, v = .int x ∧ K (.int (x.natAbs : Int)) σ')
    (hs : starEach [e] c.env = (false, eval e c.env) :: starEach [] c.env := by rfl) : EvK c ρ σ (.Call (.Name (Str.ofString "abs") p) [e] [] pos) K := fun s Q E at_ h =>
  call_builtin hg (EvKs.cons (K := fun as σ' => ∃ x, as = [.int x] ∧ K (.int (x.natAbs : Int)) σ') (he.mono fun v σ' ⟨x, e1, hK⟩ => EvKs.nil ⟨x, by rw [e1], hK⟩) (fun pos => by rw [hs]; rfl)) at_ (fun as vs σ' h1 tk ⟨x, e1, hK⟩ hv a1 k1 => by
    subst e1
    obtain ⟨_, rfl, t, rfl⟩ := avs_one hv
    refine call_abs_int fun u tk2 => ?_
    have : (if x < 0 then -x else x) = (x.natAbs : Int) := by split <;> omega
    rw [this]
    exact h _ _ σ' h1 tk2 hK ⟨_, rfl⟩ (a1.tok tk2) k1) hs rfl
end
end Mine.E
namespace Mine.E
/-- a row of written ints -/
inductive Written : List Expr → List Int → Prop
  | nil : Written [] []
  | cons {k : Int} {kk : Nat} {pos : Pos} {es : List Expr} {ns : List Int} : Written es ns → Written (.Constant (.int k) kk pos :: es) (k :: ns)
theorem EvKs.written {c : Cx} {ρ : Loc} {σ : Led} {es : List Expr} {ns : List Int} (h : Written es ns) : ∀ {K : List AV → Led → Prop}, K (ns.map .int) σ → EvKs c ρ σ es K := by
  induction h with
  | nil => intro K hK; exact EvKs.nil hK
  | cons _ ih => intro K hK; exact EvKs.p Ev.const (ih hK) (fun _ => rfl)
end Mine.E
namespace Mine.E
/-- two values compare, whatever stands in the ledger -/
def Cmp (c : Cx) (ρ : Loc) (σ : Led) (op : CmpOp) (x y : AV) (r : Bool) : Prop :=
  ∀ (s : Shared) (v u : Value) (Q E : Value → Shared → Prop), At c ρ σ s → x.of v → y.of u → (∀ h tk, (∀ b o, s.heap.get? b = some o → h.get? b = some o) → Q (.bool r) { s with heap := h, toks := tk }) → wpAny c.M c.A (compareOp op v u) Q E s
theorem ints_at {vs : List Value} {l : List Int} (h : IntsAre vs l) {j : Nat} (hj : j < vs.length) : ∃ t, vs[j] = .int (l.getD j 0) t := by
  obtain ⟨t, ht⟩ := h.get j _ (show l[j]? = some (l.getD j 0) by
    have := h.length
    rw [List.getD_eq_getElem?_getD, List.getElem?_eq_getElem (by omega)]; rfl)
  rw [List.getElem?_eq_getElem hj] at ht
  exact ⟨t, Option.some.inj ht⟩
theorem all_eq {l1 l2 : List Int} (h : l1.length = l2.length) : ((List.range l1.length).all fun j => l1.getD j 0 == l2.getD j 0) = (l1 == l2) := by
  rw [Bool.eq_iff_iff, List.all_eq_true, beq_iff_eq]
  constructor
  · intro H
    refine List.ext_getElem h fun i h1 h2 => ?_
    have := beq_iff_eq.mp (H i (List.mem_range.mpr h1))
    simpa [List.getD_eq_getElem?_getD, List.getElem?_eq_getElem h1, List.getElem?_eq_getElem h2] using this
  · rintro rfl i _
    exact beq_self_eq_true _
theorem rcL {A : Around} {s : Shared} {a b : Addr} {l1 l2 : List Int} (h1 : Has s.heap a (.ints l1)) (h2 : Has s.heap b (.ints l2)) (hu : A.units < cLine) : SeqAt.RcAt A s (.ref a) (.ref b) (l1 == l2) ∧ SeqAt.RcNeAt A s (.ref a) (.ref b) (!(l1 == l2)) := by
  obtain ⟨vs, hl, hi⟩ := h1.list
  obtain ⟨ws, hm, hj⟩ := h2.list
  have e1 := hi.length
  have e2 := hj.length
  by_cases hs : l1.length = l2.length
  · have he : ∀ j (h1 : j < vs.toArray.size) (h2 : j < ws.toArray.size), SeqAt.EqAt A.in1 s vs.toArray[j] ws.toArray[j] (l1.getD j 0 == l2.getD j 0) := fun j h1 h2 => by
      obtain ⟨t, ht⟩ := ints_at hi (j := j) (by simpa using h1)
      obtain ⟨u, hu⟩ := ints_at hj (j := j) (by simpa using h2)
      rw [List.getElem_toArray, List.getElem_toArray, ht, hu]
      exact SeqAt.EqAt.int_int _ t _ u
    have z : vs.toArray.size = l1.length := by rw [List.size_toArray, e1]
    have r1 := SeqAt.RcAt.lists hl hm (by simp; omega) hu he
    have r2 := SeqAt.RcNeAt.lists hl hm (by simp; omega) hu he
    rw [z, all_eq hs] at r1 r2
    exact ⟨r1, r2⟩
  · have hne : (l1 == l2) = false := beq_eq_false_iff_ne.mpr fun e => hs (by rw [e])
    rw [hne]
    have hz : (vs.toArray.size != ws.toArray.size) = true := by simp [bne_iff_ne]; omega
    exact ⟨SeqAt.RcAt.lists_lengths hl hm hz hu, SeqAt.RcNeAt.lists_lengths hl hm hz hu⟩
section
variable {c : Cx} {ρ : Loc} {σ : Led} {R : Loc → Led → Prop} {V : AV → Led → Prop} {rest : List Stmt} {K : AV → Led → Prop}
theorem Cmp.eqL {a b : Addr} {l1 l2 : List Int} (h1 : Rd c σ a (.ints l1)) (h2 : Rd c σ b (.ints l2)) (hu : c.k.un < cLine) : Cmp c ρ σ .Eq (.ref a) (.ref b) (l1 == l2) := fun s _ _ _ _ at_ e1 e2 k => by
  cases e1; cases e2
  exact PySem.EqBoolInt.of_rc (rcL (h1.has at_) (h2.has at_) hu).1 (k s.heap s.toks fun _ _ e => e)
theorem Cmp.neL {a b : Addr} {l1 l2 : List Int} (h1 : Rd c σ a (.ints l1)) (h2 : Rd c σ b (.ints l2)) (hu : c.k.un < cLine) : Cmp c ρ σ .NotEq (.ref a) (.ref b) (!(l1 == l2)) := fun s _ _ _ _ at_ e1 e2 k => by
  cases e1; cases e2
  exact PySem.EqBoolInt.of_rcne (rcL (h1.has at_) (h2.has at_) hu).2 (k s.heap s.toks fun _ _ e => e)
theorem Cmp.eqT {a b : Addr} {x y : Int} (h1 : Rd c σ a (.tup [.int x, .int y])) (h2 : Rd c σ b (.tup [.int x, .int y])) (hu : c.k.un < cLine) : Cmp c ρ σ .Eq (.ref a) (.ref b) true := fun s _ _ _ _ at_ e1 e2 k => by
  cases e1; cases e2
  obtain ⟨vs, ht, hv⟩ := (h1.has at_).tup
  obtain ⟨ws, hs, hw⟩ := (h2.has at_).tup
  obtain ⟨_, _, rfl, ⟨t1, rfl⟩, t2, rfl⟩ := avs_two hv
  obtain ⟨_, _, rfl, ⟨u1, rfl⟩, u2, rfl⟩ := avs_two hw
  have := SeqAt.RcAt.tuples (e := fun _ => true) ht hs hu fun j h1 h2 => by
    have hj : j = 0 ∨ j = 1 := by simp at h1; omega
    rcases hj with rfl | rfl
    · have := SeqAt.EqAt.int_int (A := c.A.in1) (s := s) x t1 x u1
      rw [beq_self_eq_true] at this
      exact this
    · have := SeqAt.EqAt.int_int (A := c.A.in1) (s := s) y t2 y u2
      rw [beq_self_eq_true] at this
      exact this
  exact PySem.EqBoolInt.of_rc this (k s.heap s.toks fun _ _ e => e)
theorem Cmp.neB {x y : Bool} : Cmp c ρ σ .NotEq (.bool x) (.bool y) (!(x == y)) := fun s _ _ Q E _ e1 e2 k => by
  cases e1; cases e2
  have : wpAny c.M c.A (compareOp .NotEq (.bool x) (.bool y)) Q E s := PySem.EqBoolInt.of_rcne (SeqAt.RcNeAt.bool_bool x y) (k s.heap s.toks fun _ _ e => e)
  exact this
theorem EvK.cmp {op : CmpOp} {a b : Expr} {pos : Pos} (ha : EvK c ρ σ a fun x σ₁ => EvK c ρ σ₁ b fun y σ₂ => ∃ r, Cmp c ρ σ₂ op x y r ∧ K (.bool r) σ₂) (hm : behindInMarks op b = false := by with_unfolding_all rfl) : EvK c ρ σ (.Compare a [op] [b] pos) K := fun s _ _ at_ k =>
  wpAny_Compare1 (ha s _ _ at_ fun x v σ₁ h1 tk1 hb hv a1 k1 => hb _ _ _ a1 fun y u σ₂ h2 tk2 ⟨r, hop, hK⟩ hu a2 k2 => hop _ _ _ _ _ a2 hv hu fun h3 tk3 hk3 => k (.bool r) _ σ₂ h3 tk3 hK rfl (a2.keeps hk3) ((k1.trans k2).trans (Keep.of hk3))) hm
theorem EvK.int {p pos : Pos} {e : Expr} (hg : Glo c ρ σ (Str.ofString "int") (.type "int")) (he : EvK c ρ σ e fun v σ' => ∃ n, v = .int n ∧ K (.int n) σ')
    (hs : starEach [e] c.env = (false, eval e c.env) :: starEach [] c.env := by rfl) : EvK c ρ σ (.Call (.Name (Str.ofString "int") p) [e] [] pos) K := fun s Q E at_ h =>
  call_type hg (EvKs.cons (K := fun as σ' => ∃ n, as = [.int n] ∧ K (.int n) σ') (he.mono fun v σ' ⟨n, e1, hK⟩ => EvKs.nil ⟨n, by rw [e1], hK⟩) (fun pos => by rw [hs]; rfl)) at_ (fun as vs σ' h1 tk ⟨n, e1, hK⟩ hv a1 k1 => by
    subst e1
    obtain ⟨_, rfl, t, rfl⟩ := avs_one hv
    exact call_int_int (h _ _ σ' h1 tk hK ⟨_, rfl⟩ a1 k1)) hs rfl
theorem EvK.sum {p pos : Pos} {e : Expr} (hg : Glo c ρ σ (Str.ofString "sum") (.builtin "sum")) (he : EvK c ρ σ e fun v σ' => ∃ D l, v = .ref D ∧ Rd c σ' D (.ints l) ∧ K (.int l.sum) σ')
    (hs : starEach [e] c.env = (false, eval e c.env) :: starEach [] c.env := by rfl) : EvK c ρ σ (.Call (.Name (Str.ofString "sum") p) [e] [] pos) K := fun s Q E at_ h =>
  call_builtin hg (EvKs.cons (K := fun as σ' => ∃ D l, as = [.ref D] ∧ Rd c σ' D (.ints l) ∧ K (.int l.sum) σ') (he.mono fun v σ' ⟨D, l, e1, hr, hK⟩ => EvKs.nil ⟨D, l, by rw [e1], hr, hK⟩) (fun pos => by rw [hs]; rfl)) at_ (fun as vs σ' h1 tk ⟨D, l, e1, hr, hK⟩ hv a1 k1 => by
    subst e1
    obtain ⟨_, rfl, rfl⟩ := avs_one hv
    obtain ⟨ws, hl, hi⟩ := (hr.has a1).list
    obtain ⟨xs, hx⟩ := hi.allInts.items
    have hl' : h1.IsList D (intItems xs) := hx ▸ hl
    refine sum_intListG rfl hl' fun h2 tk2 t' hk => ?_
    have e1 : l = xs.toList.map (·.1) := by
      rw [← nums_intItems, ← hx]
      exact (show numsOf ws.toArray.toList = l from hi.numsOf).symm
    have e2 : preSum (numAt xs) xs.size = l.sum := by
      rw [preSum_eq, List.take_of_length_le (by simp), e1]
    rw [e2]
    exact h _ _ σ' h2 tk2 hK ⟨_, rfl⟩ (a1.keeps (tk := tk2) hk) (k1.trans (Keep.of hk))) hs rfl
/-- a for over a list made on the spot -/
theorem Src.new {e : Expr} {l : List Int} (he : EvK c ρ σ e fun v σ' => ∃ D, v = .ref D ∧ σ' = (D, .ints l) :: σ) : Src c ρ σ e l.length (fun i x => ∃ n, l[i]? = some n ∧ x = .int n) := fun s Q E at_ h =>
  he s _ _ at_ fun v cv σ' h1 tk ⟨D, e1, e2⟩ hv a1 k1 => by
    subst e1; subst e2; cases hv
    obtain ⟨ob, ⟨hc, vs, n, hd, hi⟩, hg⟩ := (a1.led _ (.head _)).1
    have hls : h1.IsList D vs.toArray := ⟨_, hg, hc, _, hd⟩
    have hDn : s.heap.get? D = none := by
      rcases k1.new _ (.head _) with ⟨q, hq, e⟩ | e
      · exact absurd e.symm ((List.pairwise_cons.mp a1.nd).1 q hq)
      · exact e
    have k2 : Keep σ σ s.heap h1 := k1.sub fun _ hp => .tail _ hp
    have a2 : At c ρ σ { s with heap := h1, toks := tk } := a1.sub (List.sublist_cons_self _ _)
    refine wpAny_pyIter_list hls ?_
    have hne : D ≠ h1.objs.size := Nat.ne_of_lt (Heap.lt_size hg)
    have hII : (h1.push { cls := .type "list_iterator", data := .fields #[.ref D, .int 0 0] }).get? h1.objs.size = some _ := Heap.get?_push_size _ rfl
    have hsz : vs.toArray.size = l.length := by rw [List.size_toArray, hi.length]
    have hnI : s.heap.get? h1.objs.size = none := k1.grow _ get_next
    have sD : Safe c σ (h1.push { cls := .type "list_iterator", data := .fields #[.ref D, .int 0 0] }) D := Safe.fresh at_ hDn ⟨_, get_push _ _ hg⟩
    have sI : Safe c σ (h1.push { cls := .type "list_iterator", data := .fields #[.ref D, .int 0 0] }) h1.objs.size := Safe.fresh at_ hnI ⟨_, hII⟩
    refine h h1.objs.size _ _ _ tk (walks_map (hsz ▸ Walks.list rfl h1.objs.size D hne vs.toArray) fun i v hv => ?_) ⟨⟨_, hII, rfl, rfl⟩, hls.push _⟩ (a2.keeps (s := { s with heap := h1, toks := tk }) (tk := tk) get_push) (k2.trans (Keep.of get_push)) (fun b hb => ?_) (fun i h st => let ⟨o, ho, _⟩ := st.1; ⟨o, ho⟩) hnI
    · obtain ⟨k, t, e, hk⟩ := IntsAre.at hi i v (by simpa using hv)
      exact ⟨_, ⟨k, hk, rfl⟩, t, e⟩
    · rcases List.mem_cons.mp hb with rfl | hb
      · exact sI
      · rw [List.mem_singleton.mp hb]; exact sD
/-- a for over a written tuple -/
theorem Src.tup {es : List Expr} {k : Nat} {pos : Pos} {l : List Int} (he : Written es l) (hl : l.length < 1000000) : Src c ρ σ (.Tuple es k pos) l.length (fun i x => ∃ n, l[i]? = some n ∧ x = .int n) := fun s Q E at_ h =>
  EvK.tup (K := fun v σ' => ∃ D, v = .ref D ∧ σ' = (D, .tup (l.map .int)) :: σ) (EvKs.written he ⟨by rw [List.length_map]; exact hl, fun D => ⟨D, rfl, rfl⟩⟩) s _ _ at_ fun v cv σ' h1 tk ⟨D, e1, e2⟩ hv a1 k1 => by
    subst e1; subst e2; cases hv
    obtain ⟨vs, ht, hi⟩ := (a1.led _ (.head _)).1.tup
    obtain ⟨ob, hg, _⟩ := id ht
    have hDn : s.heap.get? D = none := by
      rcases k1.new _ (.head _) with ⟨q, hq, e⟩ | e
      · exact absurd e.symm ((List.pairwise_cons.mp a1.nd).1 q hq)
      · exact e
    have k2 : Keep σ σ s.heap h1 := k1.sub fun _ hp => .tail _ hp
    have a2 : At c ρ σ { s with heap := h1, toks := tk } := a1.sub (List.sublist_cons_self _ _)
    refine wpAny_pyIter_tuple ht ?_
    have hne : D ≠ h1.objs.size := Nat.ne_of_lt (Heap.lt_size hg)
    have hII : (h1.push { cls := .type "tuple_iterator", data := .fields #[.ref D, .int 0 0] }).get? h1.objs.size = some _ := Heap.get?_push_size _ rfl
    have hsz : vs.toArray.size = l.length := by rw [List.size_toArray, hi.length, List.length_map]
    have hnI : s.heap.get? h1.objs.size = none := k1.grow _ get_next
    have sD : Safe c σ (h1.push { cls := .type "tuple_iterator", data := .fields #[.ref D, .int 0 0] }) D := Safe.fresh at_ hDn ⟨_, get_push _ _ hg⟩
    have sI : Safe c σ (h1.push { cls := .type "tuple_iterator", data := .fields #[.ref D, .int 0 0] }) h1.objs.size := Safe.fresh at_ hnI ⟨_, hII⟩
    refine h h1.objs.size _ _ _ tk (walks_map (hsz ▸ Walks.tuple rfl h1.objs.size D hne vs.toArray) fun i v hv => ?_) ⟨⟨_, hII, rfl, rfl⟩, (show h1.IsTuple D vs.toArray from ht).at fun o e => get_push _ _ e⟩ (a2.keeps (s := { s with heap := h1, toks := tk }) (tk := tk) get_push) (k2.trans (Keep.of get_push)) (fun b hb => ?_) (fun i h st => let ⟨o, ho, _⟩ := st.1; ⟨o, ho⟩) hnI
    · obtain ⟨a, ha, hav⟩ := hi.at_ i v (by simpa using hv)
      rw [List.getElem?_map, Option.map_eq_some_iff] at ha
      obtain ⟨n, h1, rfl⟩ := ha
      exact ⟨_, ⟨n, h1, rfl⟩, hav⟩
    · rcases List.mem_cons.mp hb with rfl | hb
      · exact sI
      · rw [List.mem_singleton.mp hb]; exact sD
/-- e[i], whatever e and i make -/
theorem EvK.sub2 {e i : Expr} {pos : Pos} (he : EvK c ρ σ e fun x σ₁ => EvK c ρ σ₁ i fun y σ₂ => ∃ a o k v, x = .ref a ∧ y = .int k ∧ Rd c σ₂ a o ∧ 0 ≤ k ∧ o.row[k.toNat]? = some v ∧ o.row.length < 1000000 ∧ K v σ₂)
    (hs : ∀ (a : Addr) (k : Int) (u : Tok), subscripted i false (.ref a) (.int k u) = operate [.ref a, .int k u] (getItem (.ref a) (.int k u)) := by intro _ _ _; with_unfolding_all rfl) : EvK c ρ σ (.Subscript e i pos) K := fun s Q E at_ h =>
  Subscript_ (he s _ _ at_ fun x cv σ₁ h1 tk hi hx a1 k1 => hi _ _ _ a1 fun y cv2 σ₂ h2 tk2 ⟨a, o, k, v, e1, e2, hr, h0, hv, hfit, hK⟩ hy a2 k2 => by
    subst e1; cases hx
    subst e2
    obtain ⟨u, rfl⟩ := hy
    obtain ⟨vs, hvs, hab⟩ := (hr.has a2).row
    obtain ⟨w, hw, hwv⟩ := hvs.get hv
    have hlt : k.toNat < o.row.length := (List.getElem?_eq_some_iff.mp hv).1
    have hl := hvs.length
    refine kba_turn (value' := PySem.Expr.Name (PySem.Str.ofString "_") ⟨0, 0, 0, 0⟩) (fun _ => rfl) ?_
    rcases hab with ht | hl2
    · exact item_tupleL ht (by omega) (by omega) (j := k.toNat) (seqIndex_of h0 (by omega)) hw (h _ _ _ _ tk2 hK hwv a2 (k1.trans k2)) (hs a k u) (fun _ => rfl)
    · exact item_listL hl2 h0 (by omega) hw (h _ _ _ _ tk2 hK hwv a2 (k1.trans k2)) (hs a k u) (fun _ => rfl))
end
end Mine.E
namespace Mine.E
theorem newEnv_cell {M : Model} {A : Around} {E : Value → Shared → Prop} {s : Shared} {env : Env} {scope : Scope} {cl : List (Str × Addr)} {x qual : Str} {globals : Addr} {Q : Env → Shared → Prop}
    (hcells : ∀ n, cellsFrom n scope.names cl = (x, n) :: cl) (hpush : ∀ h, pushCells h scope.names = h.push { cls := .type "cell", data := .cell none })
    (h : Q { scope, locals := s.heap.objs.size, globals, cells := (x, s.heap.objs.size + 1) :: cl, qual, func := none, code := env.code, frame := env.frame, builtins := env.builtins } { s with heap := (s.heap.push { cls := .type "dict", data := .dict #[] }).push { cls := .type "cell", data := .cell none } }) :
    wpAny M A (newFunctionEnv scope globals cl [] qual none .none (some env)) Q E s := by
  simp only [newFunctionEnv, Option.isSome_some, if_true]
  refine wpAny_bind (wpAny_alloc ?_)
  refine wpAny_bind (wpAny_layCells _ (fun name kind cells => by cases hkc : kind == NameKind.cell <;> simp [hkc]) _ _ _ _ ?_)
  rw [hcells, hpush, show ({ s with heap := s.heap.push { cls := .type "dict", data := .dict #[] } } : Shared).heap.objs.size = s.heap.objs.size + 1 from Heap.size_push ..]
  refine wpAny_bind ?_
  rw [List.forIn_nil]
  exact wpAny_pure (wpAny_pure h)
section
variable {c : Cx} {ρ : Loc} {σ : Led} {K : AV → Led → Prop}
/-- a list comprehension of ints whose target is a cell -/
theorem EvK.compC {elt iter : Expr} {x : Str} {px pos : Pos} {scope : Scope} {n : Nat} {P : Nat → AV → Prop} {cl : List (Str × Addr)} {ρ₀ : Loc} (g : Nat → Int) (hsrc : Src c ρ σ iter n P)
    (hclos : closureFor scope c.env = Pure.pure cl) (hcells : ∀ n, cellsFrom n scope.names cl = (x, n) :: cl) (hpush : ∀ h, pushCells h scope.names = h.push { cls := .type "cell", data := .cell none })
    (hkind : scope.kind = .function) (hnames : ∀ y ∈ scope.names, y.2 = .local → scope.names.lookup y.1 = some .local) (hx : (relabel scope c.env).names.lookup x = some .cell)
    (hcl : ∀ y b, cl.lookup y = some b → c.env.cells.lookup y = some b) (hρ : ∀ y v, ρ₀.lookup y = some v → ρ.lookup y = some v ∧ c.env.kindOf y = some .cell ∧ (relabel scope c.env).names.lookup y = some .cell ∧ cl.lookup y = c.env.cells.lookup y) (hxρ : ρ₀.lookup x = none) (hn : n < 1000000)
    (turn : ∀ C X i a, i < n → P i a → EvK ⟨c.k, compEnvC scope ((x, X) :: cl) C c.env⟩ ((x, a) :: ρ₀) σ elt (fun y σ'' => y = .int (g i) ∧ σ'' = σ))
    (hK : ∀ D, K (.ref D) ((D, .ints ((List.range n).map g)) :: σ)) (hfs : ∀ v, foldedSetIterable iter c.env v = Pure.pure v := by intro _; rfl) : EvK c ρ σ (.ListComp elt [⟨.Name x px, iter, [], 0⟩] scope pos) K := fun s Q E at_ k => by
  rw [eval_ListComp]
  refine wpAny_comprehension_free (use := none) rfl hfs hclos hkind hnames (hsrc s _ E at_ fun I fp St h tk W hst at1 k1 sf hex hnew => ?_)
  refine wpAny_newObj_type (newEnv_cell hcells hpush ?_)
  dsimp only
  generalize hH2 : h.push { cls := .type "list", dict := none, data := .seq ([] : List Value).toArray } = H2
  generalize hH3 : H2.push { cls := .type "dict", data := .dict #[] } = H3
  generalize hH4 : H3.push { cls := .type "cell", data := .cell none } = h₁
  have z2 : H2.objs.size = h.objs.size + 1 := by rw [← hH2, Heap.size_push]
  have z3 : H3.objs.size = H2.objs.size + 1 := by rw [← hH3, Heap.size_push]
  have up3 : ∀ b o, H2.get? b = some o → h₁.get? b = some o := fun b o e => hH4 ▸ get_push _ _ (hH3 ▸ get_push _ _ e)
  have up : ∀ b o, h.get? b = some o → h₁.get? b = some o := fun b o e => up3 b o (hH2 ▸ get_push _ _ e)
  have hDC : h.objs.size ≠ H2.objs.size := by omega
  have hD : h₁.get? h.objs.size = some (LCg.lst []) := up3 _ _ (hH2 ▸ Heap.get?_push_size _ rfl)
  have hCo : h₁.get? H2.objs.size = some ({ cls := .type "dict", data := .dict #[] } : Obj) := hH4 ▸ get_push _ _ (hH3 ▸ Heap.get?_push_size _ rfl)
  have hXo : h₁.get? (H2.objs.size + 1) = some ({ cls := .type "cell", data := .cell none } : Obj) := by rw [← z3]; exact hH4 ▸ Heap.get?_push_size _ rfl
  have hC : h.get? H2.objs.size = none := Heap.get?_none_of_le (by omega)
  have hX : h.get? (H2.objs.size + 1) = none := Heap.get?_none_of_le (by omega)
  have hlt : ∀ b o, h.get? b = some o → b ≠ H2.objs.size := fun b o e q => by rw [q, hC] at e; cases e
  have bel : ∀ b, h.get? b = none → s.heap.get? b = none := k1.grow
  have hns₁ : h₁.Ns H2.objs.size (fun _ => none) := LCg.NsObj.ns ⟨#[], 0, rfl, fun _ he => by simp at he, fun _ => rfl⟩ hCo
  have hXn : ∀ y b, cl.lookup y = some b → b ≠ H2.objs.size + 1 := fun y b e q => by
    obtain ⟨_, v, o, ho, _⟩ := at1.cf y b (hcl y b e)
    rw [q] at ho
    exact absurd (hX.symm.trans ho) (by simp)
  have lkX : ∀ y b, ((x, H2.objs.size + 1) :: cl : List (Str × Addr)).lookup y = some b → (y = x ∧ b = H2.objs.size + 1) ∨ (y ≠ x ∧ cl.lookup y = some b) := fun y b e => by
    by_cases q : y = x
    · subst q
      simp only [List.lookup_cons, beq_self_eq_true] at e
      cases e; exact .inl ⟨rfl, rfl⟩
    · rw [List.lookup_cons, beq_eq_false_iff_ne.mpr q] at e
      exact .inr ⟨q, e⟩
  have hclX : ∀ y b, ((x, H2.objs.size + 1) :: cl : List (Str × Addr)).lookup y = some b → c.env.cells.lookup y = some b ∨ (h.get? b = none ∧ (∃ v, h₁.IsCell b v) ∧ ∀ z, ((x, H2.objs.size + 1) :: cl : List (Str × Addr)).lookup z = some b → z = y) := fun y b e => by
    rcases lkX y b e with ⟨rfl, rfl⟩ | ⟨_, e2⟩
    · refine .inr ⟨hX, ⟨none, _, hXo, rfl⟩, fun z ez => ?_⟩
      rcases lkX z _ ez with ⟨e3, _⟩ | ⟨_, e3⟩
      · exact e3
      · exact absurd rfl (hXn z _ e3)
    · exact .inl (hcl y b e2)
  have at2 : At ⟨c.k, compEnvC scope ((x, H2.objs.size + 1) :: cl) H2.objs.size c.env⟩ ρ₀ σ { s with heap := h₁, toks := tk } :=
    comp_at (s := { s with heap := h, toks := tk }) at1 up hkind hC hns₁ hclX fun y v e => by
      obtain ⟨e1, e2, e3, e4⟩ := hρ y v e
      refine ⟨e1, e2, e3, ?_⟩
      have q : (y == x) = false := beq_eq_false_iff_ne.mpr fun q => by rw [q, hxρ] at e; cases e
      show ((x, H2.objs.size + 1) :: cl : List (Str × Addr)).lookup y = _
      rw [List.lookup_cons, q]; exact e4
  have safe : ∀ b, Safe c σ h b → Safe (⟨c.k, compEnvC scope ((x, H2.objs.size + 1) :: cl) H2.objs.size c.env⟩ : Cx) σ h₁ b := fun b z => by
    obtain ⟨o, ho⟩ := z.is
    refine ⟨⟨o, up b o ho⟩, z.l, hlt b o ho, fun y a hy => ?_, z.led⟩
    rcases lkX y a hy with ⟨_, rfl⟩ | ⟨_, e2⟩
    · exact fun q => by rw [q, hX] at ho; cases ho
    · exact z.cells y a (hcl y a e2)
  have sD : Safe (⟨c.k, compEnvC scope ((x, H2.objs.size + 1) :: cl) H2.objs.size c.env⟩ : Cx) σ h₁ h.objs.size := by
    have z := Safe.fresh (s := { s with heap := h, toks := tk }) at1 (h' := h₁) get_next ⟨_, hD⟩
    refine ⟨z.is, z.l, hDC, fun y a hy => ?_, z.led⟩
    rcases lkX y a hy with ⟨_, rfl⟩ | ⟨_, e2⟩
    · show h.objs.size ≠ H2.objs.size + 1
      omega
    · exact z.cells y a (hcl y a e2)
  have hDf : h.objs.size ∉ fp := fun hm => by
    obtain ⟨o, ho⟩ := (sf _ hm).is
    rw [get_next] at ho; cases ho
  have gI : c.k.h₀.get? I = none := at_.fresh hnew
  have gD : c.k.h₀.get? h.objs.size = none := at_.fresh (bel _ get_next)
  have loop : codeAny c.M c.A (.compLoop (.ListComp elt [⟨.Name x px, iter, [], 0⟩] scope pos) 0 (.ref I) (.ref h.objs.size) (compEnvC scope ((x, H2.objs.size + 1) :: cl) H2.objs.size c.env)) (compPost c.M c.A E none Q (.ref h.objs.size) H2.objs.size) { s with heap := h₁, toks := tk } := by
    refine comp_loop (c := ⟨c.k, compEnvC scope ((x, H2.objs.size + 1) :: cl) H2.objs.size c.env⟩) (hs := s.heap) (P := P) (fun i ys σ' => ys = (List.range i).map (fun j => AV.int (g j)) ∧ σ' = σ) W (.inr ⟨hx, H2.objs.size + 1, by show ((x, H2.objs.size + 1) :: cl : List (Str × Addr)).lookup x = _; simp⟩) hxρ hex at2 (W.frame _ _ _ hst fun b _ o e => up b o e) (fun b hb => safe b (sf b hb)) sD hD hDf (k1.trans (Keep.of up)) hnew (bel _ get_next) (bel _ hC)
      (fun a e _ => ?_) gI gD hn ⟨rfl, rfl⟩ (fun i a ys σ' hi hP ⟨e1, e2⟩ => by subst e1; subst e2; exact (turn _ _ i a hi hP).mono fun y σ'' ⟨e1, e2⟩ => ⟨by rw [e1, range_snoc], e2⟩) ?_
    · rcases lkX x a e with ⟨_, rfl⟩ | ⟨q, _⟩
      · exact bel _ hX
      · exact absurd rfl q
    intro ys vs σ' h3 tk3 ⟨e1, e2⟩ hvs a3 k3 hD3 sD3
    subst e1; subst e2
    obtain ⟨m3, hn3⟩ := a3.ns
    refine ⟨m3, hn3, fun h4 hs4 => ?_⟩
    have hC3 : ∀ p ∈ σ', p.1 ≠ H2.objs.size := fun p hp => (a3.led p hp).2.2.1
    have hDC4 : h4.get? h.objs.size = some (LCg.lst vs) := hs4.extBut _ _ hDC hD3
    have k4 : Keep σ' σ' s.heap h4 := k3.but (same_wr hs4) fun J hJ => by rw [List.mem_singleton.mp hJ]; exact bel _ hC
    have hl4 : ∀ p ∈ σ', Has h4 p.1 p.2 := fun p hp => (a3.led p hp).1.mono fun ob e => hs4.extBut _ _ (hC3 p hp) e
    have hvs2 : AVs (((List.range n).map g).map .int) vs := by rw [List.map_map]; exact hvs
    have k5 : Keep σ' ((h.objs.size, .ints ((List.range n).map g)) :: σ') s.heap h4 := ⟨k4.keep, fun p hp => (List.mem_cons.mp hp).elim (fun e => .inr (e ▸ bel _ get_next)) fun hp => k4.new p hp, k4.grow⟩
    refine k (.ref h.objs.size) _ _ h4 tk3 (hK _) rfl (at_.kept k5 (fun p hp => ?_) (.cons (fun p hp => Ne.symm (sD3.led p hp)) a3.nd)) k5
    rcases List.mem_cons.mp hp with rfl | hp
    · exact ⟨_, ⟨rfl, vs, _, rfl, hvs2.ints⟩, hDC4⟩
    · exact hl4 p hp
  exact codeAny_compStart_list loop (W.self 0 _ _ _ (W.frame _ _ _ hst fun b _ o e => up b o e) loop)
end
end Mine.E
local macro_rules | `(tactic| walk_at "lk") => `(tactic| first | exact Mine.E.lk_eq | assumption | (refine Mine.E.lk_ne ?_; walk_at "lk"))
local macro_rules | `(tactic| walk_at "sd") => `(tactic| first | assumption | lia | omega)
local macro_rules | `(tactic| walk_at "rd") => `(tactic| first | assumption | exact Or.inr (by assumption) | exact Or.inl (List.Mem.head _) | exact Or.inl (List.Mem.tail _ (List.Mem.head _)) | exact Or.inl (List.Mem.tail _ (List.Mem.tail _ (List.Mem.head _))))
local macro_rules | `(tactic| walk_at "gl") => `(tactic| exact Mine.E.Glo.bi rfl rfl (by decide))
local macro_rules | `(tactic| walk_at "ev") => `(tactic| first
  | exact Mine.E.Ev.const
  | (refine' Mine.E.Ev.name ?k1; (case k1 => walk_at "lk"))
  | (refine' Mine.E.Ev.add ?k1 ?k2; (case k1 => walk_at "ev"); (case k2 => walk_at "ev"))
  | (refine' Mine.E.Ev.sub ?k1 ?k2; (case k1 => walk_at "ev"); (case k2 => walk_at "ev"))
  | (refine' Mine.E.Ev.mul ?k1 ?k2 ?k3; (case k1 => walk_at "ev"); (case k2 => walk_at "ev"); (case k3 => walk_at "sd"))
  | (refine' Mine.E.Ev.mod ?k1 ?k2 ?k3; (case k1 => walk_at "ev"); (case k2 => walk_at "ev"); (case k3 => walk_at "sd"))
  | (refine' Mine.E.Ev.div ?k1 ?k2 ?k3 ?k4; (case k1 => walk_at "ev"); (case k2 => walk_at "ev"); (case k3 => walk_at "sd"); (case k4 => walk_at "sd"))
  | (refine' Mine.E.Ev.neg ?k1; (case k1 => walk_at "ev"))
  | (refine' Mine.E.Ev.len ?k1 ?k2 ?k3 ?k4; (case k1 => walk_at "gl"); (case k2 => walk_at "ev"); (case k3 => walk_at "rd"); (case k4 => walk_at "sd"))
  | (refine' Mine.E.Ev.abs ?k1 ?k2; (case k1 => walk_at "gl"); (case k2 => walk_at "ev"))
  | (refine' Mine.E.Ev.item ?k1 ?k2 ?k3 ?k4 ?k5 ?k6; (case k1 => walk_at "ev"); (case k2 => walk_at "ev"); (case k3 => walk_at "rd"); (case k4 => walk_at "sd"); (case k5 => walk_at "sd"); (case k6 => walk_at "sd")))
local macro_rules | `(tactic| walk_at "ts") => `(tactic| first
  | (refine' Mine.E.Tst.eq ?k1 ?k2; (case k1 => walk_at "ev"); (case k2 => walk_at "ev"))
  | (refine' Mine.E.Tst.ne ?k1 ?k2; (case k1 => walk_at "ev"); (case k2 => walk_at "ev"))
  | (refine' Mine.E.Tst.lt ?k1 ?k2; (case k1 => walk_at "ev"); (case k2 => walk_at "ev"))
  | (refine' Mine.E.Tst.gt ?k1 ?k2; (case k1 => walk_at "ev"); (case k2 => walk_at "ev"))
  | (refine' Mine.E.Tst.ge ?k1 ?k2; (case k1 => walk_at "ev"); (case k2 => walk_at "ev")))
local macro_rules | `(tactic| walk_at "cl") => `(tactic| first | exact Mine.E.cl_nil | (refine Mine.E.cl_cons rfl ?_; walk_at "cl"))
local macro_rules | `(tactic| walk_at "ro") => `(tactic| first | exact Mine.E.ro_nil | (refine Mine.E.ro_cons ⟨?_, rfl, rfl, rfl⟩ ?_; (walk_at "lk"); (walk_at "ro")))
local macro_rules | `(tactic| walk_at "sb") => `(tactic| first | exact List.nil_sublist _ | exact List.Sublist.refl _ | (refine List.Sublist.cons_cons _ ?_; walk_at "sb") | (refine List.Sublist.cons _ ?_; walk_at "sb"))
namespace Mine.E
theorem gcd_c (a b : Int) : Fun 1 (Str.ofString "gcd") [.int a, .int b] [] (KI ((Int.gcd a b : Nat) : Int)) := by
  refine Fun.intro (xs := [Str.ofString "a", Str.ofString "b"]) 3 rfl rfl (fun _ _ _ => bind2 fun _ _ => rfl) rfl (by decide) rfl rfl rfl rfl rfl fun k f cdv go => ?_
  refine Ex.swapped [Str.ofString "a", Str.ofString "b"] (EvKs.p (by walk_at "ev") (EvKs.p (by walk_at "ev") (EvKs.nil ⟨Nat.le_of_ble_eq_true rfl, rfl, _, Tn.cons (Tn.cons Tn.nil), ?_⟩)))
  refine Ex.while (fun n ρ σ => ∃ x y : Nat, ρ.lookup (Str.ofString "a") = some (.int x) ∧ ρ.lookup (Str.ofString "b") = some (.int y) ∧ σ = [] ∧ Nat.gcd x y = Int.gcd a b ∧ n = y) b.natAbs ⟨a.natAbs, b.natAbs, lk_eq, lk_ne lk_eq, rfl, rfl, rfl⟩ ?_
  rintro n ρ' σ' ⟨x, y, h1, h2, rfl, hg, rfl⟩
  refine ⟨_, by walk_at "ts", fun hb => ?_, fun hb => ?_⟩
  · have hy : 0 < n := Nat.pos_of_ne_zero fun e => by subst e; cases hb
    have hy2 : (n : Int) ≠ 0 := by omega
    have e : Int.fmod (x : Int) (n : Int) = ((x % n : Nat) : Int) := Int.fmod_eq_emod_of_nonneg _ (Int.natCast_nonneg _)
    refine Ex.swapped [Str.ofString "a", Str.ofString "b"] (EvKs.p (by walk_at "ev") (EvKs.p (by walk_at "ev") (EvKs.nil ⟨Nat.le_of_ble_eq_true rfl, rfl, _, Tn.cons (Tn.cons Tn.nil), Ex.nil ⟨x % n, Nat.mod_lt _ hy, n, x % n, lk_eq, lk_ne (lk_eq.trans (by rw [e])), rfl, ?_, rfl⟩⟩)))
    rw [← hg, Nat.gcd_comm x n, Nat.gcd_rec n x, Nat.gcd_comm]
  · have hy : n = 0 := by simpa using hb
    exact Ex.ret (Ev.name h1) ⟨[], .slnil, by rw [← hg, hy, Nat.gcd_zero_right], rfl⟩
theorem gcdall_c (l : Addr) (ns : List Int) : Fun 2 (Str.ofString "gcd_all") [.ref l] [(l, .ints ns)] (KI (gcdL ns)) := by
  refine Fun.intro (xs := [Str.ofString "numbers"]) 4 rfl rfl (fun _ _ _ => bind1 fun _ => rfl) rfl (by decide) rfl rfl rfl rfl rfl fun k f cdv go => ?_
  refine Ex.assign (by walk_at "ev") ?_
  refine Ex.for (n := ns.length) (fun i ρ σ => ρ.lookup (Str.ofString "found") = some (.int (gcdL (ns.take i))) ∧ σ = []) (Src.base (by walk_at "ev") (go.hs _ (.head _))) ⟨lk_eq, rfl⟩ ?t ?d
  case t =>
    rintro i a ρ' σ' hlt ⟨x, hx, rfl⟩ ⟨h1, rfl⟩
    refine Ex.assignK (EvK.call (r := 1) (Def.of 3 rfl rfl) go (by decide) (EvKs.p (by walk_at "ev") (EvKs.p (by walk_at "ev") (EvKs.nil ⟨[], _, gcd_c _ _, (fun _ h => nomatch h), ?_⟩))))
    rintro v σn ⟨rfl, rfl⟩
    exact Ex.nil ⟨lk_eq.trans (by rw [take_snoc hx, gcdL_snoc]), rfl⟩
  case d => exact fun ρ' σ' h => Ex.ret (Ev.name h.1) ⟨[], h.2 ▸ .slnil, by rw [List.take_length], rfl⟩
theorem ztrim_c (l : Addr) (ns : List Int) (hb : ns.length < 1000) : Fun 2 (Str.ofString "ztrim") [.ref l] [(l, .ints ns)] (KL (zt ns)) := by
  refine Fun.intro (xs := [Str.ofString "row"]) 8 rfl rfl (fun _ _ _ => bind1 fun _ => rfl) rfl (by decide) rfl rfl rfl rfl rfl fun k f cdv go => ?_
  have hb2 : ns.length < 1000000 := by omega
  refine Ex.assign (Ev.len (by walk_at "gl") (by walk_at "ev") (.inr (go.hs _ (.head _))) hb2) ?_
  refine Ex.while (fun n ρ σ => ρ.lookup (Str.ofString "size") = some (.int n) ∧ ρ.lookup (Str.ofString "row") = some (.ref l) ∧ σ = [] ∧ n ≤ ns.length ∧ ∀ j, n ≤ j → j < ns.length → ns.getD j 0 = 0) ns.length ⟨lk_eq, lk_ne lk_eq, rfl, Nat.le_refl _, fun j h1 h2 => by omega⟩ ?_
  rintro n ρ' σ' ⟨h1, h2, rfl, hn, hz⟩
  have hrd : ∀ {e : Env}, Rd ⟨k, e⟩ [] l (.ints ns) := fun {_} => .inr (go.hs _ (.head _))
  refine ⟨_, Tst.and2 (Tst.gt (by walk_at "ev") (by walk_at "ev")) fun h => Tst.eq (Ev.item (by walk_at "ev") (by walk_at "ev") hrd (by simp at h; omega) (by omega) hb2) (by walk_at "ev"), fun h => ?_, fun h => ?_⟩
  · simp only [Bool.and_eq_true, decide_eq_true_eq, beq_iff_eq] at h
    have e : ((n : Int) - 1).toNat = n - 1 := by omega
    rw [e] at h
    refine Ex.augSub h1 (by walk_at "ev") (Ex.nil ⟨n - 1, by omega, lk_eq.trans (by rw [show (n : Int) - 1 = ((n - 1 : Nat) : Int) by omega]), lk_ne h2, rfl, by omega, fun j h4 h5 => ?_⟩)
    by_cases h6 : j = n - 1
    · rw [h6, h.2]
    · exact hz j (by omega) h5
  · have hk : n = 0 ∨ ns.getD (n - 1) 0 ≠ 0 := by
      by_cases h0 : n = 0
      · exact .inl h0
      · have e : ((n : Int) - 1).toNat = n - 1 := by omega
        rw [e, decide_eq_true (by omega : (n : Int) > 0)] at h
        exact .inr (by simpa using h)
    refine Ex.retK (EvK.copy (by walk_at "gl") (EvKs.cons (EvK.upto (by walk_at "ev") (by walk_at "ev") hrd hb2 (by omega) fun D => EvKs.nil ⟨D, ns.take n, rfl, .inl (.head _), by rw [List.length_take]; omega, fun D2 => ⟨_, (List.nil_sublist _).cons_cons _, D2, rfl, by rw [zt_of ns n hn hz hk]⟩⟩)))
end Mine.E
namespace Mine.E
theorem getD_of (a : List Int) (i : Nat) (h : ¬ i < a.length) : a.getD i 0 = 0 := by rw [List.getD_eq_getElem?_getD, List.getElem?_eq_none (by omega)]; rfl
theorem zadd_c (l m : Addr) (a b : List Int) (ha : a.length < 1000) (hb : b.length < 1000) : Fun 3 (Str.ofString "zadd") [.ref l, .ref m] [(l, .ints a), (m, .ints b)] (KL (zt (padd a b))) := by
  refine Fun.intro (xs := [Str.ofString "a", Str.ofString "b"]) 9 rfl rfl (fun _ _ _ => bind2 fun _ _ => rfl) rfl (by decide) rfl rfl rfl rfl rfl fun k f cdv go => ?_
  have hra : Has k.h₀ l (.ints a) := go.hs _ (.head _)
  have hrb : Has k.h₀ m (.ints b) := go.hs _ (.tail _ (.head _))
  have la : a.length < 1000000 := by omega
  have lb : b.length < 1000000 := by omega
  refine Ex.assignK (EvK.max (by walk_at "gl") (EvKs.p (by walk_at "ev") (EvKs.p (by walk_at "ev") (EvKs.nil ⟨_, _, rfl, ?_⟩))))
  have hmax : (if (b.length : Int) > a.length then (b.length : Int) else a.length) = ((max a.length b.length : Nat) : Int) := by omega
  rw [hmax]
  refine Ex.retK (EvK.call (r := 2) (Def.of 8 rfl rfl) go (by decide) (EvKs.cons (EvK.compI (ρ₀ := [(Str.ofString "a", .ref l), (Str.ofString "b", .ref m)]) (fun i => a.getD i 0 + b.getD i 0) (Src.to (max a.length b.length) (by walk_at "gl") (by walk_at "ev") (by omega) (by omega)) rfl (by walk_at "cl") (by walk_at "ro") (by omega) ?t fun D => ?d)))
  case t =>
    rintro C i _ hi rfl
    refine EvK.pure (Ev.add (x := a.getD i 0) (y := b.getD i 0) ?_ ?_) ⟨rfl, rfl⟩
    · by_cases h : i < a.length
      · exact Ev.ifT ((Tst.lt (by walk_at "ev") (by walk_at "ev")).is (by simpa using h)) (Ev.item (k := i) (by walk_at "ev") (by walk_at "ev") (.inr hra) (by omega) (by omega) la)
      · exact Ev.cast (Ev.ifF ((Tst.lt (by walk_at "ev") (by walk_at "ev")).is (by simpa using h)) Ev.const) (getD_of a i h).symm
    · by_cases h : i < b.length
      · exact Ev.ifT ((Tst.lt (by walk_at "ev") (by walk_at "ev")).is (by simpa using h)) (Ev.item (k := i) (by walk_at "ev") (by walk_at "ev") (.inr hrb) (by omega) (by omega) lb)
      · exact Ev.cast (Ev.ifF ((Tst.lt (by walk_at "ev") (by walk_at "ev")).is (by simpa using h)) Ev.const) (getD_of b i h).symm
  case d =>
    refine EvKs.nil ⟨_, _, ztrim_c D (padd a b) (by rw [padd_len]; omega), fun p hp => ?_, ?_⟩
    · rw [List.mem_singleton.mp hp]; exact .inl (.head _)
    · rintro v σn ⟨D2, rfl, rfl⟩
      exact ⟨_, (List.nil_sublist _).cons_cons _, D2, rfl, rfl⟩
end Mine.E
namespace Mine.E
theorem zscale_c (l : Addr) (ns : List Int) (k : Int) (hb : ns.length < 1000) (hk : -1152921504606846976 < k ∧ k < 1152921504606846976) : Fun 2 (Str.ofString "zscale") [.ref l, .int k] [(l, .ints ns)] (KL (pscale ns k)) := by
  refine Fun.intro (xs := [Str.ofString "p", Str.ofString "k"]) 10 rfl rfl (fun _ _ _ => bind2 fun _ _ => rfl) rfl (by decide) rfl rfl rfl rfl rfl fun k₀ f cdv go => ?_
  have hr : Has k₀.h₀ l (.ints ns) := go.hs _ (.head _)
  refine Ex.retK (EvK.ifK (Tst.ne (by walk_at "ev") (by walk_at "ev")) (fun h => ?_) (fun h => ?_))
  · refine EvK.compI (ρ₀ := [(Str.ofString "k", .int k)]) (fun i => ns.getD i 0 * k) (Src.base (by walk_at "ev") hr) rfl (by walk_at "cl") (by walk_at "ro") (by omega) ?t fun D => ⟨_, (List.Sublist.refl _), D, rfl, ?e⟩
    case t =>
      rintro C i _ hi ⟨x, hx, rfl⟩
      exact EvK.pure (Ev.cast (Ev.mul (by walk_at "ev") (by walk_at "ev") (mul_mid hk)) (by rw [List.getD_eq_getElem?_getD, hx]; rfl)) ⟨rfl, rfl⟩
    case e => rw [pscale, if_neg (by simpa using h), ← map_getD]
  · exact EvK.list (EvKs.nil ⟨[], rfl, by decide, fun D => ⟨_, (List.Sublist.refl _), D, rfl, by rw [pscale, if_pos (by simpa using h)]⟩⟩)
theorem zat_c (l : Addr) (ns : List Int) (k : Int) (hk : -1152921504606846976 < k ∧ k < 1152921504606846976) : Fun 2 (Str.ofString "zat") [.ref l, .int k] [(l, .ints ns)] (KI (ev ns k)) := by
  refine Fun.intro (xs := [Str.ofString "p", Str.ofString "n"]) 13 rfl rfl (fun _ _ _ => bind2 fun _ _ => rfl) rfl (by decide) rfl rfl rfl rfl rfl fun k₀ f cdv go => ?_
  refine Ex.assign (by walk_at "ev") ?_
  refine Ex.for (n := ns.length) (fun i ρ σ => ρ.lookup (Str.ofString "found") = some (.int (ev (ns.drop (ns.length - i)) k)) ∧ ρ.lookup (Str.ofString "n") = some (.int k) ∧ σ = []) (Src.rev (by walk_at "gl") (by walk_at "ev") (go.hs _ (.head _))) ⟨?z, lk_ne (lk_ne lk_eq), rfl⟩ ?t ?d
  case z => exact lk_eq.trans (by rw [Nat.sub_zero, List.drop_length]; rfl)
  case t =>
    rintro i a ρ' σ' hlt ⟨x, hx, rfl⟩ ⟨h1, h2, rfl⟩
    rw [List.getElem?_reverse hlt] at hx
    refine Ex.assign (Ev.add (Ev.mul (Ev.name (lk_ne h1)) (Ev.name (lk_ne h2)) (mul_mid hk)) (by walk_at "ev")) (Ex.nil ⟨lk_eq.trans ?_, lk_ne (lk_ne h2), rfl⟩)
    rw [drop_rev hx hlt, ev_cons]
  case d => exact fun ρ' σ' h => Ex.ret (Ev.name h.1) ⟨[], h.2.2 ▸ .slnil, by rw [Nat.sub_self, List.drop_zero], rfl⟩
theorem zcontent_c (l : Addr) (ns : List Int) : Fun 3 (Str.ofString "zcontent") [.ref l] [(l, .ints ns)] (KI (gcdL ns)) := by
  refine Fun.intro (xs := [Str.ofString "p"]) 12 rfl rfl (fun _ _ _ => bind1 fun _ => rfl) rfl (by decide) rfl rfl rfl rfl rfl fun k₀ f cdv go => ?_
  refine Ex.retK (EvK.call (Def.of 4 rfl rfl) go (r := 2) (by decide) (EvKs.p (by walk_at "ev") (EvKs.nil ⟨_, _, gcdall_c l ns, fun p hp => .inr (go.hs p hp), ?_⟩)))
  rintro v σn ⟨rfl, rfl⟩
  exact ⟨[], List.nil_sublist _, rfl, rfl⟩
def bF (n : Int) : Nat → Int
  | 0 => 1
  | i + 1 => Int.fdiv (bF n i * (n - (i : Int))) ((i : Int) + 1)
theorem binom_c (n k : Int) (hk : 0 ≤ k ∧ k < 100 ∧ 0 ≤ n ∧ n < 100) : Fun 1 (Str.ofString "_law_binomial") [.int n, .int k] [] (KI (bF n k.toNat)) := by
  refine Fun.intro (xs := [Str.ofString "n", Str.ofString "k"]) 37 rfl rfl (fun _ _ _ => bind2 fun _ _ => rfl) rfl (by decide) rfl rfl rfl rfl rfl fun k₀ f cdv go => ?_
  refine Ex.assign (by walk_at "ev") ?_
  refine Ex.for (fun i ρ σ => ρ.lookup (Str.ofString "found") = some (.int (bF n i)) ∧ ρ.lookup (Str.ofString "n") = some (.int n) ∧ σ = []) (Src.to k.toNat (by walk_at "gl") (by walk_at "ev") (by omega) rfl) ⟨lk_eq, lk_ne lk_eq, rfl⟩ ?t ?d
  case t =>
    rintro i a ρ' σ' hi rfl ⟨h1, h2, rfl⟩
    have hm : IntMulOk (bF n i) (n - (i : Int)) := mul_small (by omega)
    exact Ex.assign (by walk_at "ev") (Ex.nil ⟨lk_eq, lk_ne (lk_ne h2), rfl⟩)
  case d => exact fun ρ' σ' h => Ex.ret (Ev.name h.1) ⟨[], h.2.2 ▸ .slnil, rfl, rfl⟩
theorem fd_c (l : Addr) (ns : List Int) (hb : ns.length < 1000) : Fun 2 (Str.ofString "first_differences") [.ref l] [(l, .ints ns)] (KL (fdF ns)) := by
  refine Fun.intro (xs := [Str.ofString "numbers"]) 1 rfl rfl (fun _ _ _ => bind1 fun _ => rfl) rfl (by decide) rfl rfl rfl rfl rfl fun k₀ f cdv go => ?_
  refine Ex.assignK (EvK.plain fun F => ?_)
  refine Ex.while (fun n ρ σ => ∃ a fn nn tl, ρ.lookup (Str.ofString "found") = some (.ref F) ∧ ρ.lookup (Str.ofString "numbers") = some (.ref a) ∧ σ = (F, .plain fn) :: tl ∧ ((a, AO.ints nn) ∈ tl ∨ Has k₀.h₀ a (.ints nn)) ∧ fn ++ fdF nn = fdF ns ∧ nn.length = n) ns.length
    ⟨l, [], ns, [], lk_eq, lk_ne lk_eq, rfl, .inr (go.hs _ (.head _)), rfl, rfl⟩ ?_
  rintro n ρ' σ' ⟨a, fn, nn, tl, h1, h2, rfl, h3, h4, rfl⟩
  have hl : fn.length + nn.length = ns.length := by rw [← fdF_len ns, ← h4, List.length_append, fdF_len]
  have hrd : ∀ {e : Env} {o : AO}, Rd ⟨k₀, e⟩ ((F, o) :: tl) a (.ints nn) := fun {_ _} => h3.elim (fun h => .inl (.tail _ h)) .inr
  refine ⟨_, Tst.gt (Ev.len (by walk_at "gl") (by walk_at "ev") hrd (by omega)) (by walk_at "ev"), fun h => ?_, fun h => ?_⟩
  · have h0 : (0 : Int) < nn.length := by simpa using h
    refine Ex.append (by walk_at "ev") (Ev.item (by walk_at "ev") (by walk_at "ev") hrd (by omega) (by omega) (by omega)) (by omega) ?_
    refine Ex.assignK (hx := by exact Or.inr ⟨rfl, _, rfl⟩) (EvK.compI (ρ₀ := [(Str.ofString "numbers", .ref a)]) (fun i => nn.getD (i + 1) 0 - nn.getD i 0) (Src.to (nn.length - 1) (by walk_at "gl") (Ev.sub (Ev.len (by walk_at "gl") (by walk_at "ev") hrd (by omega)) (by walk_at "ev")) (by omega) (by omega)) rfl (by walk_at "cl") (by walk_at "ro") (by omega) ?t fun D => ?d)
    case t =>
      rintro C i _ hi rfl
      exact EvK.pure (Ev.cast (Ev.sub (Ev.item (by walk_at "ev") (by walk_at "ev") hrd (by omega) (by omega) (by omega)) (Ev.item (by walk_at "ev") (by walk_at "ev") hrd (by omega) (by omega) (by omega))) (by rw [show ((i : Int) + 1).toNat = i + 1 by omega, Int.toNat_natCast])) ⟨rfl, rfl⟩
    case d =>
      refine Ex.perm (List.Perm.swap _ _ _) (Ex.nil ⟨(dif nn).length, by rw [dif_len]; omega, D, _, dif nn, _, lk_ne h1, lk_eq, rfl, .inl (.head _), fd_step h4 h0, rfl⟩)
  · have h0 : ¬ (0 : Int) < nn.length := by simpa using h
    refine Ex.unplain (Ex.ret (Ev.name h1) ⟨_, (List.nil_sublist _).cons_cons _, F, rfl, by rw [fd_last h4 h0]⟩)
end Mine.E
namespace Mine.E
theorem take_len {l : List Int} {i : Nat} {x : Int} (h : l[i]? = some x) : (l.take i).length = i := by
  have := (List.getElem?_eq_some_iff.mp h).1
  rw [List.length_take]; omega
theorem mem_of_get {l : List Int} {i : Nat} {x : Int} (h : l[i]? = some x) : x ∈ l := List.mem_of_getElem? h
theorem zmul_c (l m : Addr) (a b : List Int) (ha : a.length < 400) (hb : b.length < 400) (hbd : ∀ x ∈ b, -1152921504606846976 < x ∧ x < 1152921504606846976) : Fun 2 (Str.ofString "zmul") [.ref l, .ref m] [(l, .ints a), (m, .ints b)] (KL (pmul a b)) := by
  refine Fun.intro (xs := [Str.ofString "a", Str.ofString "b"]) 11 rfl rfl (fun _ _ _ => bind2 fun _ _ => rfl) rfl (by decide) rfl rfl rfl rfl rfl fun k f cdv go => ?_
  have hra : Has k.h₀ l (.ints a) := go.hs _ (.head _)
  have hrb : Has k.h₀ m (.ints b) := go.hs _ (.tail _ (.head _))
  have la : a.length < 1000000 := by omega
  have lb : b.length < 1000000 := by omega
  refine Ex.ite (R1 := fun ρ' σ' => ρ' = [(Str.ofString "a", .ref l), (Str.ofString "b", .ref m)] ∧ σ' = [] ∧ ¬ (a.length = 0 ∨ b.length = 0)) (Tst.or2 (Tst.eq (by walk_at "ev") (by walk_at "ev")) fun _ => Tst.eq (by walk_at "ev") (by walk_at "ev")) (fun h => ?_) (fun h => ?_) ?_
  · refine Ex.retK (EvK.list (EvKs.nil ⟨[], rfl, by decide, fun D => ⟨_, List.Sublist.refl _, D, rfl, ?_⟩⟩))
    rw [pmul, if_pos (by simpa using h)]
  · exact Ex.nil ⟨rfl, rfl, by simpa using h⟩
  rintro ρ' σ' ⟨rfl, rfl, hne⟩
  refine Ex.assignK (EvK.rep (by walk_at "ev") (EvK.pure (by walk_at "ev") ⟨rfl, by omega, by omega, fun D => ?_⟩))
  have hz : ((a.length : Int) + b.length - 1).toNat = a.length + b.length - 1 := by omega
  rw [hz]
  refine Ex.forE (fun i ρ σ => ρ.lookup (Str.ofString "found") = some (.ref D) ∧ ρ.lookup (Str.ofString "b") = some (.ref m) ∧ σ = [(D, .ints (mulAll (List.replicate (a.length + b.length - 1) 0) 0 b (a.take i)))]) (by walk_at "gl") (by walk_at "ev") hra ⟨lk_eq, lk_ne (lk_ne lk_eq), by rw [List.take_zero]; rfl⟩ ?t ?d
  case t =>
    rintro i x ρ' σ' hx ⟨h1, h2, rfl⟩
    have hi := (List.getElem?_eq_some_iff.mp hx).1
    generalize hf : mulAll (List.replicate (a.length + b.length - 1) 0) 0 b (a.take i) = f0
    have hfl : f0.length = a.length + b.length - 1 := by rw [← hf, mulAll_len, List.length_replicate]
    refine Ex.ite (R1 := fun ρ' σ' => ρ'.lookup (Str.ofString "found") = some (.ref D) ∧ ρ'.lookup (Str.ofString "b") = some (.ref m) ∧ σ' = [(D, .ints (mulAll (List.replicate (a.length + b.length - 1) 0) 0 b (a.take (i + 1))))]) (Tst.ne (by walk_at "ev") (by walk_at "ev")) (fun h => ?_) (fun h => ?_) fun ρ' σ' h => Ex.nil h
    · have hx0 : x ≠ 0 := by simpa using h
      refine Ex.forE (fun j ρ σ => ρ.lookup (Str.ofString "found") = some (.ref D) ∧ ρ.lookup (Str.ofString "b") = some (.ref m) ∧ ρ.lookup (Str.ofString "one") = some (.int i) ∧ ρ.lookup (Str.ofString "left") = some (.int x) ∧ σ = [(D, .ints (mulRow f0 i x (b.take j)))]) (by walk_at "gl") (by walk_at "ev") hrb ⟨lk_ne (lk_ne h1), lk_ne (lk_ne h2), lk_ne lk_eq, lk_eq, by rw [List.take_zero]; rfl⟩ ?t2 fun ρ' σ' h => Ex.nil ⟨h.1, h.2.1, ?d2⟩
      case t2 =>
        rintro j y ρ' σ' hy ⟨g1, g2, g3, g4, rfl⟩
        have hj := (List.getElem?_eq_some_iff.mp hy).1
        have hm : IntMulOk x y := mul_mid (hbd y (mem_of_get hy))
        have hrl : (mulRow f0 i x (b.take j)).length = a.length + b.length - 1 := by rw [mulRow_len, hfl]
        refine Ex.addItem (by walk_at "ev") (by walk_at "ev") (by walk_at "ev") (by omega) (by omega) (by omega) (Ex.nil ⟨lk_ne (lk_ne g1), lk_ne (lk_ne g2), lk_ne (lk_ne g3), lk_ne (lk_ne g4), ?_⟩)
        rw [take_snoc hy, mulRow_snoc, take_len hy, show ((i : Int) + (j : Int)).toNat = i + j by omega]; rfl
      case d2 => rw [h.2.2.2.2, List.take_length, take_snoc hx, mulAll_snoc, if_neg hx0, take_len hx, hf, Nat.zero_add]
    · have hx0 : x = 0 := by simpa using h
      exact Ex.nil ⟨lk_ne (lk_ne h1), lk_ne (lk_ne h2), by rw [take_snoc hx, mulAll_snoc, if_pos hx0, hf]⟩
  case d =>
    rintro ρ' σ' ⟨h1, h2, rfl⟩
    exact Ex.ret (Ev.name h1) ⟨_, List.Sublist.refl _, D, rfl, by rw [List.take_length, pmul, if_neg hne]⟩
theorem zshift_c (l : Addr) (ns : List Int) (k : Int) (hb : ns.length < 1000) (hk : -1152921504606846976 < k ∧ k < 1152921504606846976) : Fun 2 (Str.ofString "zshift") [.ref l, .int k] [(l, .ints ns)] (KL (pshift ns k)) := by
  refine Fun.intro (xs := [Str.ofString "p", Str.ofString "n"]) 14 rfl rfl (fun _ _ _ => bind2 fun _ _ => rfl) rfl (by decide) rfl rfl rfl rfl rfl fun k₀ f cdv go => ?_
  have hr : Has k₀.h₀ l (.ints ns) := go.hs _ (.head _)
  have ln : ns.length < 1000000 := by omega
  refine Ex.assignK (EvK.copy (by walk_at "gl") (EvKs.p (by walk_at "ev") (EvKs.nil ⟨l, ns, rfl, .inr hr, ln, fun D => ?_⟩)))
  refine Ex.for (fun i ρ σ => ρ.lookup (Str.ofString "found") = some (.ref D) ∧ ρ.lookup (Str.ofString "p") = some (.ref l) ∧ ρ.lookup (Str.ofString "n") = some (.int k) ∧ σ = [(D, .ints (shAll ns k i))])
    (Src.to (ns.length - 1) (by walk_at "gl") (Ev.sub (Ev.len (by walk_at "gl") (by walk_at "ev") (.inr hr) ln) (by walk_at "ev")) (by omega) (by omega)) ⟨lk_eq, lk_ne lk_eq, lk_ne (lk_ne lk_eq), rfl⟩ ?t ?d
  case t =>
    rintro i _ ρ' σ' hi rfl ⟨h1, h2, h3, rfl⟩
    refine Ex.for (fun j ρ σ => ρ.lookup (Str.ofString "found") = some (.ref D) ∧ ρ.lookup (Str.ofString "p") = some (.ref l) ∧ ρ.lookup (Str.ofString "n") = some (.int k) ∧ σ = [(D, .ints (shRow (shAll ns k i) k (ns.length - 2) j))])
      (Src.down (a := (ns.length : Int) - 2) (b := (i : Int) - 1) (ns.length - 1 - i) (by walk_at "gl") (Ev.sub (Ev.len (by walk_at "gl") (by walk_at "ev") (.inr hr) ln) (by walk_at "ev")) (by walk_at "ev") (by walk_at "ev") (by omega) (by omega)) ⟨lk_ne h1, lk_ne h2, lk_ne h3, rfl⟩ ?t2 fun ρ' σ' h => Ex.nil ⟨h.1, h.2.1, h.2.2.1, h.2.2.2⟩
    case t2 =>
      rintro j _ ρ' σ' hj rfl ⟨g1, g2, g3, rfl⟩
      generalize hf : shRow (shAll ns k i) k (ns.length - 2) j = f0
      have hfl : f0.length = ns.length := by rw [← hf, shRow_len, shAll_len]
      refine Ex.addItem (k := (ns.length : Int) - 2 - j) (x := k * f0.getD ((ns.length : Int) - 2 - j + 1).toNat 0) (by walk_at "ev") (by walk_at "ev") (Ev.mul (by walk_at "ev") (Ev.item (by walk_at "ev") (by walk_at "ev") (.inl (.head _)) (by omega) (by omega) (by omega)) (mul_midL hk)) (by omega) (by omega) (by omega) (Ex.nil ⟨lk_ne g1, lk_ne g2, lk_ne g3, ?_⟩)
      rw [shRow, hf, addAt, show ((ns.length : Int) - 2 - (j : Int)).toNat = ns.length - 2 - j by omega, show ((ns.length : Int) - 2 - (j : Int) + 1).toNat = ns.length - 2 - j + 1 by omega]
  case d =>
    rintro ρ' σ' ⟨h1, h2, h3, rfl⟩
    exact Ex.ret (Ev.name h1) ⟨_, List.Sublist.refl _, D, rfl, rfl⟩
end Mine.E
namespace Mine.E
theorem row1 (i : Nat) (h : i < 100) : ∀ x ∈ [-(i : Int), 1], -1152921504606846976 < x ∧ x < 1152921504606846976 := fun x hx => by
  rcases List.mem_cons.mp hx with e | hx
  · omega
  · rw [List.mem_singleton.mp hx]; omega
theorem zcompose_c (l m : Addr) (a b : List Int) (ha : a.length < 10) (hb : b.length < 10) (hbd : ∀ x ∈ b, -1152921504606846976 < x ∧ x < 1152921504606846976) : Fun 4 (Str.ofString "zcompose") [.ref l, .ref m] [(l, .ints a), (m, .ints b)] (KL (pcomp b a)) := by
  refine Fun.intro (xs := [Str.ofString "a", Str.ofString "b"]) 15 rfl rfl (fun _ _ _ => bind2 fun _ _ => rfl) rfl (by decide) rfl rfl rfl rfl rfl fun k f cdv go => ?_
  have hra : Has k.h₀ l (.ints a) := go.hs _ (.head _)
  have hrb : Has k.h₀ m (.ints b) := go.hs _ (.tail _ (.head _))
  refine Ex.assignK (EvK.list (EvKs.nil ⟨[], rfl, by decide, fun D₀ => ?_⟩))
  refine Ex.for (n := a.length) (fun i ρ σ => ∃ D, ρ.lookup (Str.ofString "found") = some (.ref D) ∧ ρ.lookup (Str.ofString "b") = some (.ref m) ∧ σ = [(D, .ints (pcomp b (a.drop (a.length - i))))] ∧ (pcomp b (a.drop (a.length - i))).length ≤ 10 * i + 1) (Src.rev (by walk_at "gl") (by walk_at "ev") hra) ⟨D₀, lk_eq, lk_ne (lk_ne lk_eq), ?z, ?z2⟩ ?t ?d
  case z => rw [Nat.sub_zero, List.drop_length]; rfl
  case z2 => rw [Nat.sub_zero, List.drop_length]; exact Nat.zero_le _
  case t =>
    rintro i _ ρ' σ' hlt ⟨x, hx, rfl⟩ ⟨D, h1, h2, rfl, h3⟩
    rw [List.getElem?_reverse hlt] at hx
    rw [drop_rev hx hlt]
    generalize a.drop (a.length - i) = r at h3 ⊢
    have hp := pmul_len (pcomp b r) b
    refine Ex.assignK (EvK.call (Def.of 9 rfl rfl) go (r := 3) (by decide) (EvKs.cons (EvK.call (Def.of 11 rfl rfl) go (r := 2) (by decide) (EvKs.p (by walk_at "ev") (EvKs.p (by walk_at "ev") (EvKs.nil ⟨_, _, zmul_c D m (pcomp b r) b (by omega) (by omega) hbd, fun p hp => ?r1, ?_⟩))))))
    case r1 =>
      rcases List.mem_cons.mp hp with rfl | hp
      · exact .inl (.head _)
      · rw [List.mem_singleton.mp hp]; exact .inr hrb
    rintro v σn ⟨D1, rfl, rfl⟩
    refine EvKs.cons (EvK.call (Def.of 8 rfl rfl) go (r := 2) (by decide) (EvKs.cons (EvK.list (EvKs.p (by walk_at "ev") (EvKs.nil ⟨[x], rfl, by show 1 < 1000000; decide, fun D2 => EvKs.nil ⟨_, _, ztrim_c D2 [x] (by show 1 < 1000; decide), fun p hp => ?r2, ?_⟩⟩)))))
    case r2 => rw [List.mem_singleton.mp hp]; exact .inl (.head _)
    rintro v σn ⟨D3, rfl, rfl⟩
    refine EvKs.nil ⟨_, _, zadd_c D1 D3 (pmul (pcomp b r) b) (zt [x]) (by omega) (by have := zt_len [x]; have e : [x].length = 1 := rfl; omega), fun p hp => ?r3, ?_⟩
    case r3 =>
      rcases List.mem_cons.mp hp with rfl | hp
      · exact .inl (.tail _ (.tail _ (.head _)))
      · rw [List.mem_singleton.mp hp]; exact .inl (.head _)
    rintro v σn ⟨D4, rfl, rfl⟩
    exact Ex.sub (fun _ _ h => h) ((List.nil_sublist _).cons_cons _) (Ex.nil ⟨D4, lk_eq, lk_ne (lk_ne h2), rfl, pcomp_step hb h3⟩)
  case d =>
    rintro ρ' σ' ⟨D, h1, _, rfl, _⟩
    exact Ex.ret (Ev.name h1) ⟨_, List.Sublist.refl _, D, rfl, by rw [Nat.sub_self, List.drop_zero]⟩
theorem lawrow_c (l : Addr) (ns : List Int) (k : Int) (hk : 0 ≤ k ∧ k < 100) : Fun 3 (Str.ofString "_law_row") [.ref l, .int k] [(l, .ints ns)] (KL (fdF (vals ns k.toNat))) := by
  refine Fun.intro (xs := [Str.ofString "p", Str.ofString "many"]) 36 rfl rfl (fun _ _ _ => bind2 fun _ _ => rfl) rfl (by decide) rfl rfl rfl rfl rfl fun k₀ f cdv go => ?_
  have hr : Has k₀.h₀ l (.ints ns) := go.hs _ (.head _)
  refine Ex.retK (EvK.call (Def.of 1 rfl rfl) go (r := 2) (by decide) (EvKs.cons (EvK.compI (ρ₀ := [(Str.ofString "p", .ref l)]) (fun i => ev ns (i : Int)) (Src.to k.toNat (by walk_at "gl") (by walk_at "ev") (by omega) rfl) rfl (by walk_at "cl") (by walk_at "ro") (by omega) ?t fun D => EvKs.nil ⟨_, _, fd_c D (vals ns k.toNat) (by rw [vals_len]; omega), fun p hp => ?r, ?d⟩)))
  case t =>
    rintro C i _ hi rfl
    refine EvK.call (Def.of 13 rfl rfl) go (r := 2) (by decide) (EvKs.p (by walk_at "ev") (EvKs.p (by walk_at "ev") (EvKs.nil ⟨_, _, zat_c l ns i (by omega), fun p hp => ?_, ?_⟩)))
    · rw [List.mem_singleton.mp hp]; exact .inr hr
    · rintro v σn ⟨rfl, rfl⟩; exact ⟨rfl, rfl⟩
  case r => rw [List.mem_singleton.mp hp]; exact .inl (.head _)
  case d =>
    rintro v σn ⟨D2, rfl, rfl⟩
    exact ⟨_, (List.nil_sublist _).cons_cons _, D2, rfl, rfl⟩
theorem pscale_len (p : List Int) (k : Int) : (pscale p k).length ≤ p.length := by
  unfold pscale
  split
  · exact Nat.zero_le _
  · rw [List.length_map]; exact Nat.le_refl _
theorem thrF_len (c : Nat → Int) : ∀ i, (thrF c i).length ≤ 2 * i + 1
  | 0 => Nat.zero_le _
  | i + 1 => by
    have h1 := zt_len (padd (thrF c i) (pscale (thrBase i) (c i)))
    have h2 := thrF_len c i
    have h3 := pscale_len (thrBase i) (c i)
    have h4 := thrBase_len i
    rw [padd_len] at h1
    rw [thrF]; omega
theorem thr_c (l : Addr) (ns : List Int) (hb : ns.length < 100) (hbd : ∀ i, i < ns.length → -1152921504606846976 < (thrRow ns i).getD 0 0 ∧ (thrRow ns i).getD 0 0 < 1152921504606846976) :
    Fun 4 (Str.ofString "through_values") [.ref l] [(l, .ints ns)] (KL (thrF (fun i => (thrRow ns i).getD 0 0) ns.length)) := by
  refine Fun.intro (xs := [Str.ofString "values"]) 17 rfl rfl (fun _ _ _ => bind1 fun _ => rfl) rfl (by decide) rfl rfl rfl rfl rfl fun k f cdv go => ?_
  have hr : Has k.h₀ l (.ints ns) := go.hs _ (.head _)
  have ln : ns.length < 1000000 := by omega
  refine Ex.unpack (EvK.tup (EvKs.cons (EvK.list (EvKs.nil ⟨[], rfl, by decide, fun F => ?_⟩))))
  refine EvKs.cons (EvK.list (EvKs.p (by walk_at "ev") (EvKs.nil ⟨[1], rfl, by show 1 < 1000000; decide, fun B => ?_⟩)))
  refine EvKs.cons (EvK.copy (by walk_at "gl") (EvKs.p (by walk_at "ev") (EvKs.nil ⟨l, ns, rfl, .inr hr, ln, fun W => ?_⟩)))
  refine EvKs.nil ⟨Nat.le_of_ble_eq_true rfl, fun T => ⟨T, _, rfl, .inl (.head _), [(W, .ints ns), (B, .ints [1]), (F, .ints [])], _, List.sublist_cons_self _ _, Tg.cons (Tg.cons (Tg.cons Tg.nil (by exact Or.inr ⟨rfl, _, rfl⟩))), ?_⟩⟩
  refine Ex.for (fun i ρ σ => ∃ F B W, ρ.lookup (Str.ofString "found") = some (.ref F) ∧ ρ.lookup (Str.ofString "base") = some (.ref B) ∧ ρ.lookup (Str.ofString "row") = some (.ref W) ∧ σ = [(W, .ints (thrRow ns i)), (B, .ints (thrBase i)), (F, .ints (thrF (fun i => (thrRow ns i).getD 0 0) i))])
    (Src.to ns.length (by walk_at "gl") (Ev.len (by walk_at "gl") (by walk_at "ev") (.inr hr) ln) (by omega) (by omega)) ⟨F, B, W, lk_ne (lk_ne lk_eq), lk_ne lk_eq, lk_eq, rfl⟩ ?t ?d (by exact Or.inr ⟨rfl, _, rfl⟩)
  case t =>
    rintro i _ ρ' σ' hi rfl ⟨F, B, W, h1, h2, h3, rfl⟩
    have e1 := thrBase_len i
    have e2 := thrF_len (fun i => (thrRow ns i).getD 0 0) i
    have e3 := thrRow_len ns i
    have e4 := pscale_len (thrBase i) ((thrRow ns i).getD 0 0)
    refine Ex.assignK (EvK.call (Def.of 9 rfl rfl) go (r := 3) (by decide) (EvKs.p (by walk_at "ev") (EvKs.cons (EvK.call (Def.of 10 rfl rfl) go (r := 2) (by decide) (EvKs.p (by walk_at "ev") (EvKs.p (Ev.item (l := thrRow ns i) (k := 0) (by walk_at "ev") (by walk_at "ev") (.inl (.head _)) (by omega) (by omega) (by omega)) (EvKs.nil ⟨_, _, zscale_c B (thrBase i) _ (by omega) (hbd i hi), fun p hp => ?r1, ?_⟩)))))))
    case r1 => rw [List.mem_singleton.mp hp]; exact .inl (.tail _ (.head _))
    rintro v σn ⟨D1, rfl, rfl⟩
    refine EvKs.nil ⟨_, _, zadd_c F D1 (thrF (fun i => (thrRow ns i).getD 0 0) i) (pscale (thrBase i) ((thrRow ns i).getD 0 0)) (by omega) (by omega), fun p hp => ?r2, ?_⟩
    case r2 =>
      rcases List.mem_cons.mp hp with rfl | hp
      · exact .inl (.tail _ (.tail _ (.tail _ (.head _))))
      · rw [List.mem_singleton.mp hp]; exact .inl (.head _)
    rintro v σn ⟨F', rfl, rfl⟩
    refine Ex.assignK (EvK.call (Def.of 11 rfl rfl) go (r := 2) (by decide) (EvKs.p (by walk_at "ev") (EvKs.cons (EvK.list (EvKs.p (by walk_at "ev") (EvKs.p (by walk_at "ev") (EvKs.nil ⟨[-(i : Int), 1], rfl, by show 2 < 1000000; decide, fun D2 => EvKs.nil ⟨_, _, zmul_c B D2 (thrBase i) [-(i : Int), 1] (by omega) (by show 2 < 400; decide) (row1 i (by omega)), fun p hp => ?r3, ?_⟩⟩)))))))
    case r3 =>
      rcases List.mem_cons.mp hp with rfl | hp
      · exact .inl (.tail _ (.tail _ (.tail _ (.tail _ (.head _)))))
      · rw [List.mem_singleton.mp hp]; exact .inl (.head _)
    rintro v σn ⟨B', rfl, rfl⟩
    refine Ex.assignK (hx := by exact Or.inr ⟨rfl, _, rfl⟩) (EvK.compI (ρ₀ := [(Str.ofString "row", .ref W), (Str.ofString "at", .int i)]) (fun j => Int.fdiv ((thrRow ns i).getD (j + 1) 0 - (thrRow ns i).getD j 0) ((i : Int) + 1)) (Src.to ((thrRow ns i).length - 1) (by walk_at "gl") (Ev.sub (Ev.len (l := thrRow ns i) (by walk_at "gl") (by walk_at "ev") ?w (by omega)) (by walk_at "ev")) (by omega) (by omega)) rfl (by walk_at "cl") (by walk_at "ro") (by omega) ?t2 fun D => ?d2)
    case w => exact .inl (.tail _ (.tail _ (.tail _ (.tail _ (.head _)))))
    case t2 =>
      rintro C j _ hj rfl
      refine EvK.pure (Ev.cast (Ev.div (Ev.sub (Ev.item (l := thrRow ns i) (by walk_at "ev") (by walk_at "ev") ?w1 (by omega) (by omega) (by omega)) (Ev.item (l := thrRow ns i) (by walk_at "ev") (by walk_at "ev") ?w1 (by omega) (by omega) (by omega))) (by walk_at "ev") (by omega) (by omega)) ?e) ⟨rfl, rfl⟩
      case w1 => exact .inl (.tail _ (.tail _ (.tail _ (.tail _ (.head _)))))
      case e => rw [show ((j : Int) + 1).toNat = j + 1 by omega, Int.toNat_natCast]
    case d2 =>
      refine Ex.sub (σ' := [(D, .ints (rdv (thrRow ns i) i)), (B', .ints (pmul (thrBase i) [-(i : Int), 1])), (F', .ints (zt (padd (thrF (fun i => (thrRow ns i).getD 0 0) i) (pscale (thrBase i) ((thrRow ns i).getD 0 0)))))]) (fun _ _ h => h) ?_ (Ex.nil ⟨F', B', D, lk_ne (lk_ne lk_eq), lk_ne lk_eq, lk_eq, rfl⟩)
      exact ((((List.nil_sublist _).cons_cons _).cons _).cons_cons _).cons_cons _
  case d =>
    rintro ρ' σ' ⟨F, B, W, h1, h2, h3, rfl⟩
    exact Ex.ret (Ev.name h1) ⟨_, ((List.Sublist.refl _).cons _).cons _, F, rfl, rfl⟩
end Mine.E
namespace Mine.E
theorem mtrim_c (l : Addr) (ns : List Int) (hb : ns.length < 1000) : Fun 2 (Str.ofString "mtrim") [.ref l] [(l, .ints ns)] (KL (zt ns)) := by
  refine Fun.intro (xs := [Str.ofString "a"]) 19 rfl rfl (fun _ _ _ => bind1 fun _ => rfl) rfl (by decide) rfl rfl rfl rfl rfl fun k f cdv go => ?_
  have hb2 : ns.length < 1000000 := by omega
  refine Ex.assign (Ev.len (by walk_at "gl") (by walk_at "ev") (.inr (go.hs _ (.head _))) hb2) ?_
  refine Ex.while (fun n ρ σ => ρ.lookup (Str.ofString "many") = some (.int n) ∧ ρ.lookup (Str.ofString "a") = some (.ref l) ∧ σ = [] ∧ n ≤ ns.length ∧ ∀ j, n ≤ j → j < ns.length → ns.getD j 0 = 0) ns.length ⟨lk_eq, lk_ne lk_eq, rfl, Nat.le_refl _, fun j h1 h2 => absurd h2 (Nat.not_lt.mpr h1)⟩ ?_
  rintro n ρ' σ' ⟨h1, h2, rfl, hn, hz⟩
  have hrd : ∀ {e : Env}, Rd ⟨k, e⟩ [] l (.ints ns) := fun {_} => .inr (go.hs _ (.head _))
  refine ⟨_, Tst.and2 (Tst.gt (by walk_at "ev") (by walk_at "ev")) fun h => Tst.eq (Ev.item (by walk_at "ev") (by walk_at "ev") hrd (by simp at h; omega) (by omega) hb2) (by walk_at "ev"), fun h => ?_, fun h => ?_⟩
  · simp only [Bool.and_eq_true, decide_eq_true_eq, beq_iff_eq] at h
    have e : ((n : Int) - 1).toNat = n - 1 := by omega
    rw [e] at h
    refine Ex.assign (by walk_at "ev") (Ex.nil ⟨n - 1, by omega, lk_eq.trans (by rw [show (n : Int) - 1 = ((n - 1 : Nat) : Int) by omega]), lk_ne h2, rfl, by omega, fun j h4 h5 => ?_⟩)
    by_cases h6 : j = n - 1
    · rw [h6, h.2]
    · exact hz j (by omega) h5
  · have hk : n = 0 ∨ ns.getD (n - 1) 0 ≠ 0 := by
      by_cases h0 : n = 0
      · exact .inl h0
      · have e : ((n : Int) - 1).toNat = n - 1 := by omega
        rw [e, decide_eq_true (by omega : (n : Int) > 0)] at h
        exact .inr (by simpa using h)
    refine Ex.retK (EvK.copy (by walk_at "gl") (EvKs.cons (EvK.upto (by walk_at "ev") (by walk_at "ev") hrd hb2 (by omega) fun D => EvKs.nil ⟨D, ns.take n, rfl, .inl (.head _), by rw [List.length_take]; omega, fun D2 => ⟨_, (List.nil_sublist _).cons_cons _, D2, rfl, by rw [zt_of ns n hn hz hk]⟩⟩)))
theorem mreduce_c (l : Addr) (ns : List Int) (p : Int) (hb : ns.length < 1000) (hp : 0 < p) : Fun 3 (Str.ofString "mreduce") [.ref l, .int p] [(l, .ints ns)] (KL (zt (ns.map (Int.fmod · p)))) := by
  refine Fun.intro (xs := [Str.ofString "a", Str.ofString "p"]) 20 rfl rfl (fun _ _ _ => bind2 fun _ _ => rfl) rfl (by decide) rfl rfl rfl rfl rfl fun k f cdv go => ?_
  have hr : Has k.h₀ l (.ints ns) := go.hs _ (.head _)
  refine Ex.retK (EvK.call (Def.of 19 rfl rfl) go (r := 2) (by decide) (EvKs.cons (EvK.compI (ρ₀ := [(Str.ofString "p", .int p)]) (fun i => Int.fmod (ns.getD i 0) p) (Src.base (by walk_at "ev") hr) rfl (by walk_at "cl") (by walk_at "ro") (by omega) ?t fun D => EvKs.nil ⟨_, _, mtrim_c D (ns.map (Int.fmod · p)) (by rw [List.length_map]; omega), fun q hq => ?r, ?d⟩)))
  case t =>
    rintro C i _ hi ⟨x, hx, rfl⟩
    exact EvK.pure (Ev.cast (Ev.mod (by walk_at "ev") (by walk_at "ev") (by omega)) (by rw [List.getD_eq_getElem?_getD, hx]; rfl)) ⟨rfl, rfl⟩
  case r => rw [List.mem_singleton.mp hq, ← map_getD]; exact .inl (.head _)
  case d =>
    rintro v σn ⟨D2, rfl, rfl⟩
    exact ⟨_, (List.nil_sublist _).cons_cons _, D2, rfl, rfl⟩
/-- where the division of 1 by m stands, n turns ahead of its end -/
def ExT (m : Int) (n : Nat) (x y z u v w : Int) : Prop := (n = 2 ∧ x = 1 ∧ y = 1 ∧ z = 0 ∧ u = m ∧ v = 0 ∧ w = 1) ∨ (n = 1 ∧ x = m ∧ y = 0 ∧ z = 1 ∧ u = 1 ∧ v = 1 ∧ w = 0) ∨ (n = 0 ∧ x = 1 ∧ y = 1 ∧ z = 0 ∧ u = 0 ∧ v = -m ∧ w = 1)
theorem ext_step {m : Int} (hm : m = 2 ∨ m = 3 ∨ m = 5) {n : Nat} {x y z u v w : Int} (h : ExT m n x y z u v w) (hu : u ≠ 0) : ∃ n', n' < n ∧ ExT m n' u v w (x - Int.fdiv x u * u) (y - Int.fdiv x u * v) (z - Int.fdiv x u * w) := by
  rcases h with ⟨rfl, rfl, rfl, rfl, rfl, rfl, rfl⟩ | ⟨rfl, rfl, rfl, rfl, rfl, rfl, rfl⟩ | ⟨_, _, _, _, h, _⟩
  · exact ⟨1, by decide, .inr (.inl (by rcases hm with rfl | rfl | rfl <;> decide))⟩
  · exact ⟨0, by decide, .inr (.inr (by rcases hm with rfl | rfl | rfl <;> decide))⟩
  · exact absurd h hu
abbrev T3 (x y z : Int) : AO := .tup [.int x, .int y, .int z]
theorem ext_c (m : Int) (hm : m = 2 ∨ m = 3 ∨ m = 5) : Fun 2 (Str.ofString "extended") [.int 1, .int m] [] (fun v σ => ∃ D, v = .ref D ∧ σ = [(D, T3 1 1 0)]) := by
  refine Fun.intro (xs := [Str.ofString "a", Str.ofString "b"]) 5 rfl rfl (fun _ _ _ => bind2 fun _ _ => rfl) rfl (by decide) rfl rfl rfl rfl rfl fun k f cdv go => ?_
  refine Ex.swapped [Str.ofString "one", Str.ofString "other"] (EvKs.cons (EvK.tup (EvKs.p (by walk_at "ev") (EvKs.p (by walk_at "ev") (EvKs.p (by walk_at "ev") (EvKs.nil ⟨Nat.le_of_ble_eq_true rfl, fun A => ?_⟩))))))
  refine EvKs.cons (EvK.tup (EvKs.p (by walk_at "ev") (EvKs.p (by walk_at "ev") (EvKs.p (by walk_at "ev") (EvKs.nil ⟨Nat.le_of_ble_eq_true rfl, fun B => EvKs.nil ⟨Nat.le_of_ble_eq_true rfl, rfl, _, Tn.cons (Tn.cons Tn.nil), ?_⟩⟩)))))
  refine Ex.while (fun n ρ σ => ∃ A B x y z u v w, ρ.lookup (Str.ofString "one") = some (.ref A) ∧ ρ.lookup (Str.ofString "other") = some (.ref B) ∧ σ = [(B, T3 u v w), (A, T3 x y z)] ∧ ExT m n x y z u v w) 2 ⟨A, B, _, _, _, _, _, _, lk_eq, lk_ne lk_eq, rfl, .inl ⟨rfl, rfl, rfl, rfl, rfl, rfl, rfl⟩⟩ ?_
  rintro n ρ' σ' ⟨A, B, x, y, z, u, v, w, h1, h2, rfl, hT⟩
  have hbd : u.natAbs < 1073741824 ∧ v.natAbs < 1073741824 ∧ w.natAbs < 1073741824 := by unfold ExT at hT; omega
  have rA : ∀ {e : Env} {t : Led}, Rd ⟨k, e⟩ ((B, T3 u v w) :: (A, T3 x y z) :: t) A (T3 x y z) := fun {_ _} => .inl (.tail _ (.head _))
  have rB : ∀ {e : Env} {t : Led}, Rd ⟨k, e⟩ ((B, T3 u v w) :: t) B (T3 u v w) := fun {_ _} => .inl (.head _)
  refine ⟨_, Tst.ne (Ev.titem (k := 0) (v := .int u) (by walk_at "ev") (by walk_at "ev") rB (by decide) rfl (Nat.le_of_ble_eq_true rfl)) (by walk_at "ev"), fun h => ?_, fun h => ?_⟩
  · have hu : u ≠ 0 := by simpa using h
    obtain ⟨n', hn', hT'⟩ := ext_step hm hT hu
    refine Ex.assign (Ev.div (Ev.titem (k := 0) (v := .int x) (by walk_at "ev") (by walk_at "ev") rA (by decide) rfl (Nat.le_of_ble_eq_true rfl)) (Ev.titem (k := 0) (v := .int u) (by walk_at "ev") (by walk_at "ev") rB (by decide) rfl (Nat.le_of_ble_eq_true rfl)) hu hbd.1) ?_
    refine Ex.assignK (EvK.tup (EvKs.p (Ev.sub (Ev.titem (k := 0) (v := .int x) (by walk_at "ev") (by walk_at "ev") rA (by decide) rfl (Nat.le_of_ble_eq_true rfl)) (Ev.mul (by walk_at "ev") (Ev.titem (k := 0) (v := .int u) (by walk_at "ev") (by walk_at "ev") rB (by decide) rfl (Nat.le_of_ble_eq_true rfl)) (mul_small hbd.1))) ?_))
    refine EvKs.p (Ev.sub (Ev.titem (k := 1) (v := .int y) (by walk_at "ev") (by walk_at "ev") rA (by decide) rfl (Nat.le_of_ble_eq_true rfl)) (Ev.mul (by walk_at "ev") (Ev.titem (k := 1) (v := .int v) (by walk_at "ev") (by walk_at "ev") rB (by decide) rfl (Nat.le_of_ble_eq_true rfl)) (mul_small hbd.2.1))) ?_
    refine EvKs.p (Ev.sub (Ev.titem (k := 2) (v := .int z) (by walk_at "ev") (by walk_at "ev") rA (by decide) rfl (Nat.le_of_ble_eq_true rfl)) (Ev.mul (by walk_at "ev") (Ev.titem (k := 2) (v := .int w) (by walk_at "ev") (by walk_at "ev") rB (by decide) rfl (Nat.le_of_ble_eq_true rfl)) (mul_small hbd.2.2))) (EvKs.nil ⟨Nat.le_of_ble_eq_true rfl, fun D => ?_⟩)
    refine Ex.swapped [Str.ofString "one", Str.ofString "other"] (EvKs.p (by walk_at "ev") (EvKs.p (by walk_at "ev") (EvKs.nil ⟨Nat.le_of_ble_eq_true rfl, rfl, _, Tn.cons (Tn.cons Tn.nil), ?_⟩)))
    refine Ex.sub (σ' := [(D, T3 _ _ _), (B, T3 u v w)]) (fun _ _ h => h) ((((List.nil_sublist _).cons_cons _)).cons_cons _) (Ex.nil ⟨n', hn', B, D, _, _, _, _, _, _, lk_eq, lk_ne lk_eq, rfl, hT'⟩)
  · have hu : u = 0 := by simpa using h
    have hx : x = 1 ∧ y = 1 ∧ z = 0 := by unfold ExT at hT; omega
    obtain ⟨rfl, rfl, rfl⟩ := hx
    refine Ex.retK (EvK.ifK (Tst.ge (Ev.titem (k := 0) (v := .int 1) (by walk_at "ev") (by walk_at "ev") rA (by decide) rfl (Nat.le_of_ble_eq_true rfl)) (by walk_at "ev")) (fun _ => EvK.pure (by walk_at "ev") ⟨_, (List.Sublist.refl _).cons _, A, rfl, rfl⟩) fun h => ?_)
    exact absurd h (by decide)
theorem inv_c (m : Int) (hm : m = 2 ∨ m = 3 ∨ m = 5) : Fun 3 (Str.ofString "inverse_mod") [.int 1, .int m] [] (KI 1) := by
  refine Fun.intro (xs := [Str.ofString "a", Str.ofString "m"]) 6 rfl rfl (fun _ _ _ => bind2 fun _ _ => rfl) rfl (by decide) rfl rfl rfl rfl rfl fun k f cdv go => ?_
  have h1 : Int.fmod 1 m = 1 := by rcases hm with rfl | rfl | rfl <;> rfl
  refine Ex.unpack (EvK.call (Def.of 5 rfl rfl) go (r := 2) (by decide) (EvKs.p (Ev.cast (Ev.mod (by walk_at "ev") (by walk_at "ev") (by omega)) h1) (EvKs.p (by walk_at "ev") (EvKs.nil ⟨_, _, ext_c m hm, (fun _ h => nomatch h), ?_⟩))))
  rintro v σn ⟨D, rfl, rfl⟩
  refine ⟨D, _, rfl, .inl (.head _), [], _, List.nil_sublist _, Tg.cons (Tg.cons (Tg.cons Tg.nil)), ?_⟩
  exact Ex.retK (EvK.ifK (Tst.eq (by walk_at "ev") (by walk_at "ev")) (fun _ => EvK.pure (Ev.cast (Ev.mod (by walk_at "ev") (by walk_at "ev") (by omega)) h1) ⟨[], .slnil, rfl, rfl⟩) fun h => absurd h (by decide))
end Mine.E
namespace Mine.E
theorem mdiv_c (l m : Addr) (a b : List Int) (p : Int) (ha : a.length < 400) (hb : b.length < 400) (hn0 : 0 < b.length) (hlast : b.getD (b.length - 1) 0 = 1) (hp : p = 2 ∨ p = 3 ∨ p = 5) :
    Fun 4 (Str.ofString "mdivmod") [.ref l, .ref m, .int p] [(l, .ints a), (m, .ints b)] (fun v σ => ∃ T D1 D2, v = .ref T ∧ σ = [(T, .tup [.ref D1, .ref D2]), (D2, .ints (pmod a b p))]) := by
  refine Fun.intro (xs := [Str.ofString "a", Str.ofString "b", Str.ofString "p"]) 21 rfl rfl (fun _ _ _ => bind3 fun _ _ _ => rfl) rfl (by decide) rfl rfl rfl rfl rfl fun k f cdv go => ?_
  have hra : Has k.h₀ l (.ints a) := go.hs _ (.head _)
  have hrb : Has k.h₀ m (.ints b) := go.hs _ (.tail _ (.head _))
  have la : a.length < 1000000 := by omega
  have lb : b.length < 1000000 := by omega
  have hp0 : p ≠ 0 := by omega
  refine Ex.swapped [Str.ofString "rest", Str.ofString "quotient"] (EvKs.cons (EvK.copy (by walk_at "gl") (EvKs.p (by walk_at "ev") (EvKs.nil ⟨l, a, rfl, .inr hra, la, fun R => ?_⟩))))
  refine EvKs.cons (EvK.rep (by walk_at "ev") (EvK.max (by walk_at "gl") (EvKs.p (by walk_at "ev") (EvKs.p (by walk_at "ev") (EvKs.nil ⟨_, _, rfl, rfl, by omega, by omega, fun Q => EvKs.nil ⟨Nat.le_of_ble_eq_true rfl, rfl, _, Tn.cons (Tn.cons Tn.nil), ?_⟩⟩)))))
  have hq : (if (a.length : Int) - (b.length : Int) + 1 > 0 then (a.length : Int) - (b.length : Int) + 1 else 0).toNat = a.length + 1 - b.length := by omega
  rw [hq]
  refine Ex.assignK (EvK.call (Def.of 6 rfl rfl) go (r := 3) (by decide) (EvKs.p (Ev.cast (Ev.last (by walk_at "ev") (.inr hrb) hn0 lb) hlast) (EvKs.p (by walk_at "ev") (EvKs.nil ⟨_, _, inv_c p hp, (fun _ h => nomatch h), ?_⟩))))
  rintro v σn ⟨rfl, rfl⟩
  refine Ex.for (fun i ρ σ => ρ.lookup (Str.ofString "rest") = some (.ref R) ∧ ρ.lookup (Str.ofString "quotient") = some (.ref Q) ∧ ρ.lookup (Str.ofString "turn") = some (.int 1) ∧ ρ.lookup (Str.ofString "b") = some (.ref m) ∧ ρ.lookup (Str.ofString "p") = some (.int p) ∧
      ∃ qs : List Int, qs.length = a.length + 1 - b.length ∧ σ = [(Q, .ints qs), (R, .ints (dvAll a b p (a.length - b.length) i))])
    (Src.down (a := (a.length : Int) - b.length) (b := -1) (a.length + 1 - b.length) (by walk_at "gl") (by walk_at "ev") (by walk_at "ev") (by walk_at "ev") (by omega) (by omega)) ⟨by walk_at "lk", by walk_at "lk", by walk_at "lk", by walk_at "lk", by walk_at "lk", _, List.length_replicate, rfl⟩ ?t ?d
  case t =>
    rintro i _ ρ' σ' hi rfl ⟨h1, h2, h3, h4, h5, qs, hql, rfl⟩
    have hrl : (dvAll a b p (a.length - b.length) i).length = a.length := dvAll_len ..
    generalize hrs : dvAll a b p (a.length - b.length) i = rs at hrl ⊢
    have e1 : ((a.length : Int) - b.length - i + b.length - 1).toNat = a.length - b.length - i + b.length - 1 := by omega
    refine Ex.assign (v := .int (Int.fmod (rs.getD (a.length - b.length - i + b.length - 1) 0 * 1) p)) (Ev.cast (Ev.mod (Ev.mul (Ev.item (l := rs) (k := (a.length : Int) - b.length - i + b.length - 1) (by walk_at "ev") (by walk_at "ev") (.inl (.tail _ (.head _))) (by omega) (by omega) (by omega)) (by walk_at "ev") (mul_small (by decide))) (by walk_at "ev") hp0) (by rw [e1])) ?_
    have hd : dvAll a b p (a.length - b.length) (i + 1) = if Int.fmod (rs.getD (a.length - b.length - i + b.length - 1) 0 * 1) p = 0 then rs else dvRow rs (a.length - b.length - i) (Int.fmod (rs.getD (a.length - b.length - i + b.length - 1) 0 * 1) p) p b := by rw [dvAll, hrs]
    have hnb : -1152921504606846976 < Int.fmod (rs.getD (a.length - b.length - i + b.length - 1) 0 * 1) p ∧ Int.fmod (rs.getD (a.length - b.length - i + b.length - 1) 0 * 1) p < 1152921504606846976 := by
      rw [Int.fmod_eq_emod_of_nonneg _ (by omega)]
      have q1 := Int.emod_nonneg (rs.getD (a.length - b.length - i + b.length - 1) 0 * 1) hp0
      have q2 := Int.emod_lt_of_pos (rs.getD (a.length - b.length - i + b.length - 1) 0 * 1) (show 0 < p by omega)
      omega
    generalize Int.fmod (rs.getD (a.length - b.length - i + b.length - 1) 0 * 1) p = number at hd hnb ⊢
    refine Ex.setItem (k := (a.length : Int) - b.length - i) (by walk_at "ev") (by walk_at "ev") (by walk_at "ev") (by omega) (by omega) (by omega) (Ex.perm (List.Perm.swap _ _ _) ?_)
    generalize hqq : qs.set ((a.length : Int) - b.length - i).toNat number = qq
    have hqql : qq.length = a.length + 1 - b.length := by rw [← hqq, List.length_set, hql]
    refine Ex.ite (R1 := fun ρ' σ' => ρ'.lookup (Str.ofString "rest") = some (.ref R) ∧ ρ'.lookup (Str.ofString "quotient") = some (.ref Q) ∧ ρ'.lookup (Str.ofString "turn") = some (.int 1) ∧ ρ'.lookup (Str.ofString "b") = some (.ref m) ∧ ρ'.lookup (Str.ofString "p") = some (.int p) ∧ σ' = [(R, .ints (dvAll a b p (a.length - b.length) (i + 1))), (Q, .ints qq)])
      (Tst.ne (by walk_at "ev") (by walk_at "ev")) (fun h => ?_) (fun h => ?_) fun ρ' σ' h => ?_
    · have hne : number ≠ 0 := by simpa using h
      refine Ex.forE (fun j ρ σ => (ρ.lookup (Str.ofString "rest") = some (.ref R) ∧ ρ.lookup (Str.ofString "quotient") = some (.ref Q) ∧ ρ.lookup (Str.ofString "turn") = some (.int 1) ∧ ρ.lookup (Str.ofString "b") = some (.ref m) ∧ ρ.lookup (Str.ofString "p") = some (.int p)) ∧
          ρ.lookup (Str.ofString "at") = some (.int ((a.length : Int) - b.length - i)) ∧ ρ.lookup (Str.ofString "number") = some (.int number) ∧ σ = [(R, .ints (dvRow rs (a.length - b.length - i) number p (b.take j))), (Q, .ints qq)]) (by walk_at "gl") (by walk_at "ev") hrb ⟨⟨by walk_at "lk", by walk_at "lk", by walk_at "lk", by walk_at "lk", by walk_at "lk"⟩, by walk_at "lk", by walk_at "lk", by rw [List.take_zero]; rfl⟩ ?t2 fun ρ' σ' h => Ex.nil ⟨h.1.1, h.1.2.1, h.1.2.2.1, h.1.2.2.2.1, h.1.2.2.2.2, ?d2⟩
      case t2 =>
        rintro j y ρ' σ' hy ⟨⟨g1, g2, g3, g4, g5⟩, g6, g7, rfl⟩
        have hj := (List.getElem?_eq_some_iff.mp hy).1
        have hrl2 : (dvRow rs (a.length - b.length - i) number p (b.take j)).length = a.length := by rw [dvRow_len, hrl]
        have hm : IntMulOk number y := mul_midL hnb
        refine Ex.setItem (k := (a.length : Int) - b.length - i + j) (Ev.mod (Ev.sub (Ev.item (k := (a.length : Int) - b.length - i + j) (by walk_at "ev") (by walk_at "ev") (.inl (.head _)) (by omega) (by omega) (by omega)) (by walk_at "ev")) (by walk_at "ev") hp0) (by walk_at "ev") (by walk_at "ev") (by omega) (by omega) (by omega) (Ex.nil ⟨⟨lk_ne (lk_ne g1), lk_ne (lk_ne g2), lk_ne (lk_ne g3), lk_ne (lk_ne g4), lk_ne (lk_ne g5)⟩, lk_ne (lk_ne g6), lk_ne (lk_ne g7), ?_⟩)
        rw [take_snoc hy, dvRow_snoc, take_len hy, show ((a.length : Int) - b.length - i + j).toNat = a.length - b.length - i + j by omega]
      case d2 => rw [h.2.2.2, List.take_length, hd, if_neg hne]
    · have hne : number = 0 := by simpa using h
      exact Ex.nil ⟨by walk_at "lk", by walk_at "lk", by walk_at "lk", by walk_at "lk", by walk_at "lk", by rw [hd, if_pos hne]⟩
    · obtain ⟨g1, g2, g3, g4, g5, rfl⟩ := h
      exact Ex.perm (List.Perm.swap _ _ _) (Ex.nil ⟨g1, g2, g3, g4, g5, qq, hqql, rfl⟩)
  case d =>
    rintro ρ' σ' ⟨h1, h2, h3, h4, h5, qs, hql, rfl⟩
    have hrl : (dvAll a b p (a.length - b.length) (a.length + 1 - b.length)).length = a.length := dvAll_len ..
    refine Ex.retK (EvK.tup (EvKs.cons (EvK.call (Def.of 19 rfl rfl) go (r := 2) (by decide) (EvKs.p (by walk_at "ev") (EvKs.nil ⟨_, _, mtrim_c Q qs (by omega), fun p hp => ?r1, ?_⟩)))))
    case r1 => rw [List.mem_singleton.mp hp]; exact .inl (.head _)
    rintro v σn ⟨D1, rfl, rfl⟩
    refine EvKs.cons (EvK.call (Def.of 19 rfl rfl) go (r := 2) (by decide) (EvKs.cons (EvK.upto (a := R) (l := dvAll a b p (a.length - b.length) (a.length + 1 - b.length)) (k := (b.length : Int) - 1) (by walk_at "ev") (by walk_at "ev") (.inl (.tail _ (.tail _ (.head _)))) (by omega) (by omega) fun D2 => EvKs.nil ⟨_, _, mtrim_c D2 ((dvAll a b p (a.length - b.length) (a.length + 1 - b.length)).take ((b.length : Int) - 1).toNat) (by rw [List.length_take, hrl]; omega), fun p hp => ?r2, ?_⟩)))
    case r2 => rw [List.mem_singleton.mp hp]; exact .inl (.head _)
    rintro v σn ⟨D3, rfl, rfl⟩
    refine EvKs.nil ⟨Nat.le_of_ble_eq_true rfl, fun T => ⟨_, (((List.nil_sublist _).cons_cons _)).cons_cons _, T, D1, D3, rfl, ?_⟩⟩
    rw [pmod, show ((b.length : Int) - 1).toNat = b.length - 1 by omega]
theorem mrest_c (l m : Addr) (a b : List Int) (p : Int) (ha : a.length < 400) (hb : b.length < 400) (hn0 : 0 < b.length) (hlast : b.getD (b.length - 1) 0 = 1) (hp : p = 2 ∨ p = 3 ∨ p = 5) :
    Fun 5 (Str.ofString "mrest") [.ref l, .ref m, .int p] [(l, .ints a), (m, .ints b)] (KL (pmod a b p)) := by
  refine Fun.intro (xs := [Str.ofString "a", Str.ofString "b", Str.ofString "p"]) 22 rfl rfl (fun _ _ _ => bind3 fun _ _ _ => rfl) rfl (by decide) rfl rfl rfl rfl rfl fun k f cdv go => ?_
  refine Ex.retK (EvK.sub (EvK.call (Def.of 21 rfl rfl) go (r := 4) (by decide) (EvKs.p (by walk_at "ev") (EvKs.p (by walk_at "ev") (EvKs.p (by walk_at "ev") (EvKs.nil ⟨_, _, mdiv_c l m a b p ha hb hn0 hlast hp, fun q hq => .inr (go.hs q hq), ?_⟩))))))
  rintro v σn ⟨T, D1, D2, rfl, rfl⟩
  exact ⟨T, .tup [.ref D1, .ref D2], 1, .ref D2, rfl, by walk_at "ev", .inl (.head _), by decide, rfl, Nat.le_of_ble_eq_true rfl, _, ((List.Sublist.refl _).cons _), D2, rfl, rfl⟩
end Mine.E
namespace Mine.E
abbrev T2 (x y : Int) : AO := .tup [.int x, .int y]
abbrev pobj (q : Addr × Int × Int) : Addr × AO := (q.1, T2 q.2.1 q.2.2)
abbrev KLP (ps : List (Int × Int)) : AV → Led → Prop := fun v σ => ∃ D pl, v = .ref D ∧ pl.map (·.2) = ps ∧ σ = (D, .lst (pl.map fun q => .ref q.1)) :: (pl : List (Addr × Int × Int)).reverse.map pobj
theorem rat_c (x y : Int) (hy : y ≠ 0) (hyb : y.natAbs < 1000000000) : Fun 2 (Str.ofString "rat") [.int x, .int y] [] (KP (Int.fdiv x (ratG x y)) (Int.fdiv y (ratG x y))) := by
  refine Fun.intro (xs := [Str.ofString "top", Str.ofString "bottom"]) 27 rfl rfl (fun _ _ _ => bind2 fun _ _ => rfl) rfl (by decide) rfl rfl rfl rfl rfl fun k f cdv go => ?_
  have hg : ((Int.gcd x y : Nat) : Int) ≠ 0 := fun e => hy (Int.gcd_eq_zero_iff.mp (show Int.gcd x y = 0 by omega)).2
  have hgb : Int.gcd x y < 1073741824 := Nat.lt_of_le_of_lt (Int.gcd_le_natAbs_right x hy) (by omega)
  have hG : ratG x y ≠ 0 ∧ (ratG x y).natAbs < 1073741824 := by unfold ratG; split <;> omega
  refine Ex.skip (TstK.of (Tst.eq (by walk_at "ev") (by walk_at "ev")) ⟨by simpa using hy, ?_⟩)
  have call : ∀ {e : Env} {ρ : Loc} {K : AV → Led → Prop} {p1 p2 p3 p4 : Pos}, e.kindOf (Str.ofString "gcd") = some .globalImplicit → e.globals = mainGlobals → ρ.lookup (Str.ofString "top") = some (.int x) → ρ.lookup (Str.ofString "bottom") = some (.int y) → K (.int ((Int.gcd x y : Nat) : Int)) [] → EvK ⟨k, e⟩ ρ [] (.Call (.Name (Str.ofString "gcd") p1) [.Name (Str.ofString "top") p2, .Name (Str.ofString "bottom") p3] [] p4) K := fun hx hg h1 h2 hK =>
    EvK.call (hx := hx) (hg := hg) (Def.of 3 rfl rfl) go (r := 1) (by decide) (EvKs.p (Ev.name h1) (EvKs.p (Ev.name h2) (EvKs.nil ⟨_, _, gcd_c x y, (fun _ h => nomatch h), by rintro v σn ⟨rfl, rfl⟩; exact hK⟩)))
  refine Ex.assignK (EvK.mono (K := fun v σ => v = .int (ratG x y) ∧ σ = []) ?_ ?_)
  · refine EvK.ifK (Tst.gt (by walk_at "ev") (by walk_at "ev")) (fun h => call rfl rfl (by walk_at "lk") (by walk_at "lk") ⟨by rw [ratG, if_pos (by simpa using h)], rfl⟩) fun h => ?_
    exact EvK.bin (EvK.pure Ev.const ⟨0, rfl, call rfl rfl (by walk_at "lk") (by walk_at "lk") ⟨_, _, rfl, (fun _ _ _ _ _ h => sub_int (h _ _)), by rw [ratG, if_neg (by simpa using h)], rfl⟩⟩)
  rintro v σ' ⟨rfl, rfl⟩
  exact Ex.retK (EvK.tup (EvKs.p (Ev.div (by walk_at "ev") (by walk_at "ev") hG.1 hG.2) (EvKs.p (Ev.div (by walk_at "ev") (by walk_at "ev") hG.1 hG.2) (EvKs.nil ⟨Nat.le_of_ble_eq_true rfl, fun D => ⟨_, List.Sublist.refl _, D, rfl, rfl⟩⟩))))
theorem radd_c (l m : Addr) (x y x' y' : Int) (hy : y * y' ≠ 0) (hyb : (y * y').natAbs < 1000000000) (hb : -1152921504606846976 < y ∧ y < 1152921504606846976) (hb' : -1152921504606846976 < y' ∧ y' < 1152921504606846976) :
    Fun 3 (Str.ofString "radd") [.ref l, .ref m] [(l, T2 x y), (m, T2 x' y')] (KP (raddF (x, y) (x', y')).1 (raddF (x, y) (x', y')).2) := by
  refine Fun.intro (xs := [Str.ofString "a", Str.ofString "b"]) 28 rfl rfl (fun _ _ _ => bind2 fun _ _ => rfl) rfl (by decide) rfl rfl rfl rfl rfl fun k f cdv go => ?_
  have ra : ∀ {e : Env} {t : Led}, Rd ⟨k, e⟩ t l (T2 x y) := fun {_ _} => .inr (go.hs _ (.head _))
  have rb : ∀ {e : Env} {t : Led}, Rd ⟨k, e⟩ t m (T2 x' y') := fun {_ _} => .inr (go.hs _ (.tail _ (.head _)))
  refine Ex.retK (EvK.call (Def.of 27 rfl rfl) go (r := 2) (by decide) (EvKs.p (v := .int (x * y' + x' * y)) (Ev.add (Ev.mul (Ev.titem (k := 0) (v := .int x) (by walk_at "ev") (by walk_at "ev") ra (by decide) rfl (Nat.le_of_ble_eq_true rfl)) (Ev.titem (k := 1) (v := .int y') (by walk_at "ev") (by walk_at "ev") rb (by decide) rfl (Nat.le_of_ble_eq_true rfl)) (mul_mid hb')) (Ev.mul (Ev.titem (k := 0) (v := .int x') (by walk_at "ev") (by walk_at "ev") rb (by decide) rfl (Nat.le_of_ble_eq_true rfl)) (Ev.titem (k := 1) (v := .int y) (by walk_at "ev") (by walk_at "ev") ra (by decide) rfl (Nat.le_of_ble_eq_true rfl)) (mul_mid hb)))
    (EvKs.p (v := .int (y * y')) (Ev.mul (Ev.titem (k := 1) (v := .int y) (by walk_at "ev") (by walk_at "ev") ra (by decide) rfl (Nat.le_of_ble_eq_true rfl)) (Ev.titem (k := 1) (v := .int y') (by walk_at "ev") (by walk_at "ev") rb (by decide) rfl (Nat.le_of_ble_eq_true rfl)) (mul_mid hb')) (EvKs.nil ⟨_, _, rat_c _ _ hy hyb, (fun _ h => nomatch h), ?_⟩))))
  rintro v σn ⟨D, rfl, rfl⟩
  exact ⟨_, List.Sublist.refl _, D, rfl, rfl⟩
theorem rmul_c (l m : Addr) (x y x' y' : Int) (hy : y * y' ≠ 0) (hyb : (y * y').natAbs < 1000000000) (hb : -1152921504606846976 < x' ∧ x' < 1152921504606846976) (hb' : -1152921504606846976 < y' ∧ y' < 1152921504606846976) :
    Fun 3 (Str.ofString "rmul") [.ref l, .ref m] [(l, T2 x y), (m, T2 x' y')] (KP (rmulF (x, y) (x', y')).1 (rmulF (x, y) (x', y')).2) := by
  refine Fun.intro (xs := [Str.ofString "a", Str.ofString "b"]) 29 rfl rfl (fun _ _ _ => bind2 fun _ _ => rfl) rfl (by decide) rfl rfl rfl rfl rfl fun k f cdv go => ?_
  have ra : ∀ {e : Env} {t : Led}, Rd ⟨k, e⟩ t l (T2 x y) := fun {_ _} => .inr (go.hs _ (.head _))
  have rb : ∀ {e : Env} {t : Led}, Rd ⟨k, e⟩ t m (T2 x' y') := fun {_ _} => .inr (go.hs _ (.tail _ (.head _)))
  refine Ex.retK (EvK.call (Def.of 27 rfl rfl) go (r := 2) (by decide) (EvKs.p (v := .int (x * x')) (Ev.mul (Ev.titem (k := 0) (v := .int x) (by walk_at "ev") (by walk_at "ev") ra (by decide) rfl (Nat.le_of_ble_eq_true rfl)) (Ev.titem (k := 0) (v := .int x') (by walk_at "ev") (by walk_at "ev") rb (by decide) rfl (Nat.le_of_ble_eq_true rfl)) (mul_mid hb))
    (EvKs.p (v := .int (y * y')) (Ev.mul (Ev.titem (k := 1) (v := .int y) (by walk_at "ev") (by walk_at "ev") ra (by decide) rfl (Nat.le_of_ble_eq_true rfl)) (Ev.titem (k := 1) (v := .int y') (by walk_at "ev") (by walk_at "ev") rb (by decide) rfl (Nat.le_of_ble_eq_true rfl)) (mul_mid hb')) (EvKs.nil ⟨_, _, rat_c _ _ hy hyb, (fun _ h => nomatch h), ?_⟩))))
  rintro v σn ⟨D, rfl, rfl⟩
  exact ⟨_, List.Sublist.refl _, D, rfl, rfl⟩
/-- a row of pairs that grows -/
def PInv (ps : List (Int × Int)) (i : Nat) (ys : List AV) (σ : Led) : Prop := ∃ pl : List (Addr × Int × Int), ys = (pl.map fun q => .ref q.1) ∧ pl.map (·.2) = ps.take i ∧ σ = pl.reverse.map pobj
theorem PInv.nil (ps : List (Int × Int)) : PInv ps 0 [] [] := ⟨[], rfl, rfl, rfl⟩
theorem PInv.snoc {ps : List (Int × Int)} {i : Nat} {ys : List AV} {σ : Led} (h : PInv ps i ys σ) {D : Addr} {p : Int × Int} (hp : ps[i]? = some p) : PInv ps (i + 1) (ys ++ [.ref D]) ((D, T2 p.1 p.2) :: σ) := by
  obtain ⟨pl, rfl, h2, rfl⟩ := h
  exact ⟨pl ++ [(D, p)], by simp, by rw [List.map_append, h2, Mine.take_snoc hp]; rfl, by simp⟩
theorem PInv.done {ps : List (Int × Int)} {n : Nat} {ys : List AV} {σ : Led} (hn : ps.length = n) (h : PInv ps n ys σ) (D : Addr) : Ret (KLP ps) (.ref D) ((D, .lst ys) :: σ) := by
  obtain ⟨pl, rfl, h2, rfl⟩ := h
  exact ⟨_, List.Sublist.refl _, D, pl, rfl, by rw [h2, ← hn, List.take_length], rfl⟩
theorem fromz_c (l : Addr) (ns : List Int) (hb : ns.length < 1000) : Fun 1 (Str.ofString "from_z") [.ref l] [(l, .ints ns)] (KLP (ns.map fun a => (a, 1))) := by
  refine Fun.intro (xs := [Str.ofString "z"]) 33 rfl rfl (fun _ _ _ => bind1 fun _ => rfl) rfl (by decide) rfl rfl rfl rfl rfl fun k f cdv go => ?_
  refine Ex.retK (EvK.comp (ρ₀ := []) (PInv (ns.map fun a => (a, 1))) (Src.base (by walk_at "ev") (go.hs _ (.head _))) rfl (by decide) rfl (by decide) rfl (by walk_at "cl") (by walk_at "ro") rfl (by omega) (PInv.nil _) ?t fun ys σ' h => .inl (h.done (by rw [List.length_map])))
  rintro C i _ ys σ' hi ⟨x, hx, rfl⟩ hI
  exact EvK.tup (EvKs.p (by walk_at "ev") (EvKs.p (by walk_at "ev") (EvKs.nil ⟨Nat.le_of_ble_eq_true rfl, fun D => hI.snoc (p := (x, 1)) (by rw [List.getElem?_map, hx]; rfl)⟩)))
theorem qscale_c (l R : Addr) (pl : List (Addr × Int × Int)) (y : Int) (hb : pl.length < 100) (hy : 0 < y ∧ y < 20000) (hps : ∀ q ∈ pl, q.2.2 = 1) :
    Fun 5 (Str.ofString "qscale") [.ref l, .ref R] ((l, .lst (pl.map fun q => .ref q.1)) :: (R, T2 1 y) :: pl.map pobj) (KLP (pl.map fun q => rmulF q.2 (1, y))) := by
  refine Fun.intro (xs := [Str.ofString "p", Str.ofString "r"]) 31 rfl rfl (fun _ _ _ => bind2 fun _ _ => rfl) rfl (by decide) rfl rfl rfl rfl rfl fun k f cdv go => ?_
  have hl := go.hs _ (.head _)
  have hR := go.hs _ (.tail _ (.head _))
  refine Ex.retK (EvK.ifK (Tst.ne (Ev.titem (k := 0) (v := .int 1) (by walk_at "ev") (by walk_at "ev") (.inr hR) (by decide) rfl (Nat.le_of_ble_eq_true rfl)) (by walk_at "ev")) (fun _ => ?_) fun h => absurd h (by decide))
  refine EvK.comp (n := (pl.map fun q => AV.ref q.1).length) (ρ₀ := [(Str.ofString "r", .ref R)]) (PInv (pl.map fun q => rmulF q.2 (1, y))) (Src.lst (by walk_at "ev") hl) rfl (by decide) rfl (by decide) rfl (by walk_at "cl") (by walk_at "ro") rfl (by rw [List.length_map]; omega) (PInv.nil _) ?t fun ys σ' h => .inl (h.done (by rw [List.length_map, List.length_map]))
  rintro C i a ys σ' hi ha hI
  rw [List.getElem?_map, Option.map_eq_some_iff] at ha
  obtain ⟨⟨T, u, v⟩, hq, rfl⟩ := ha
  have h1 : v = 1 := hps _ (List.mem_of_getElem? hq)
  subst h1
  refine EvK.call (Def.of 29 rfl rfl) go (r := 3) (by decide) (EvKs.p (by walk_at "ev") (EvKs.p (by walk_at "ev") (EvKs.nil ⟨_, _, rmul_c T R u 1 1 y (by omega) (by omega) (by decide) (by omega), fun p hp => ?r, ?_⟩)))
  case r =>
    rcases List.mem_cons.mp hp with rfl | hp
    · exact .inr (go.hs _ (.tail _ (.tail _ (List.mem_map.mpr ⟨_, List.mem_of_getElem? hq, rfl⟩))))
    · rw [List.mem_singleton.mp hp]; exact .inr hR
  rintro v σn ⟨D, rfl, rfl⟩
  exact hI.snoc (p := rmulF (u, 1) (1, y)) (by rw [List.getElem?_map, hq]; rfl)
theorem qat_c (l R : Addr) (pl : List (Addr × Int × Int)) (x : Int) (hx : -1073741824 < x ∧ x < 1073741824)
    (hq : ∀ i, i ≤ pl.length → 0 < (qatF x ((pl.map (·.2)).drop (pl.length - i))).2 ∧ (qatF x ((pl.map (·.2)).drop (pl.length - i))).2 < 20000)
    (hq2 : ∀ i, i ≤ pl.length → 0 < (rmulF (qatF x ((pl.map (·.2)).drop (pl.length - i))) (x, 1)).2 ∧ (rmulF (qatF x ((pl.map (·.2)).drop (pl.length - i))) (x, 1)).2 < 20000)
    (hps : ∀ q ∈ pl, 0 < q.2.2 ∧ q.2.2 < 20000) (hne : 0 < pl.length) :
    Fun 5 (Str.ofString "qat") [.ref l, .ref R] ((l, .lst (pl.map fun q => .ref q.1)) :: (R, T2 x 1) :: pl.map pobj) (KP (qatF x (pl.map (·.2))).1 (qatF x (pl.map (·.2))).2) := by
  refine Fun.intro (xs := [Str.ofString "p", Str.ofString "r"]) 32 rfl rfl (fun _ _ _ => bind2 fun _ _ => rfl) rfl (by decide) rfl rfl rfl rfl rfl fun k f cdv go => ?_
  have hl := go.hs _ (.head _)
  have hR := go.hs _ (.tail _ (.head _))
  refine Ex.assignK (EvK.r0 fun a₀ hr0 => ?_)
  have hml : (pl.map fun q => AV.ref q.1).length = pl.length := List.length_map _
  refine Ex.for (n := (pl.map fun q => AV.ref q.1).length) (fun i ρ σ => ∃ D, ρ.lookup (Str.ofString "found") = some (.ref D) ∧ ρ.lookup (Str.ofString "r") = some (.ref R) ∧ ((D, T2 (qatF x ((pl.map (·.2)).drop (pl.length - i))).1 (qatF x ((pl.map (·.2)).drop (pl.length - i))).2) ∈ σ ∨ (i = 0 ∧ Has k.h₀ D (T2 (qatF x ((pl.map (·.2)).drop (pl.length - i))).1 (qatF x ((pl.map (·.2)).drop (pl.length - i))).2))))
    (Src.revL (by walk_at "gl") (by walk_at "ev") hl) ⟨a₀, lk_eq, by walk_at "lk", .inr ⟨rfl, ?z⟩⟩ ?t ?d
  case z => rw [Nat.sub_zero, List.drop_of_length_le (by rw [List.length_map]; exact Nat.le_refl _)]; exact hr0
  case t =>
    rintro i a ρ' σ' hi ha ⟨D, h1, h2, h3⟩
    rw [hml] at hi
    rw [List.getElem?_reverse (by rw [hml]; exact hi), hml, List.getElem?_map, Option.map_eq_some_iff] at ha
    obtain ⟨⟨T, u, v⟩, hT, rfl⟩ := ha
    have hkp : 0 < v ∧ v < 20000 := hps _ (List.mem_of_getElem? hT)
    have hqi := hq i (by omega)
    have hqi2 := hq2 i (by omega)
    have hd : (pl.map (·.2)).drop (pl.length - (i + 1)) = (u, v) :: (pl.map (·.2)).drop (pl.length - i) := by
      have := drop_rev2 (ns := pl.map (·.2)) (i := i) (n := (u, v)) (by rw [List.length_map, List.getElem?_map, hT]; rfl) (by rw [List.length_map]; exact hi)
      rwa [List.length_map] at this
    rw [hd]
    generalize (pl.map (·.2)).drop (pl.length - i) = r at h3 hqi hqi2 ⊢
    have hD : ∀ {e : Env}, Rd ⟨k, e⟩ σ' D (T2 (qatF x r).1 (qatF x r).2) := fun {_} => h3.imp id (·.2)
    refine Ex.assignK (EvK.call (Def.of 28 rfl rfl) go (r := 3) (by decide) (EvKs.cons (EvK.call (Def.of 29 rfl rfl) go (r := 3) (by decide) (EvKs.p (by walk_at "ev") (EvKs.p (by walk_at "ev") (EvKs.nil ⟨_, _, rmul_c D R (qatF x r).1 (qatF x r).2 x 1 (by omega) (by omega) (by omega) (by decide), fun p hp => ?r1, ?_⟩))))))
    case r1 =>
      rcases List.mem_cons.mp hp with rfl | hp
      · exact hD
      · rw [List.mem_singleton.mp hp]; exact .inr hR
    rintro v1 σn ⟨D1, rfl, rfl⟩
    have hpos : 0 < (rmulF (qatF x r) (x, 1)).2 * v := Int.mul_pos hqi2.1 hkp.1
    have hlt2 : (rmulF (qatF x r) (x, 1)).2 * v < 20000 * 20000 := Int.lt_of_lt_of_le (Int.mul_lt_mul_of_pos_right hqi2.2 hkp.1) (Int.mul_le_mul_of_nonneg_left (Int.le_of_lt hkp.2) (by omega))
    refine EvKs.p (by walk_at "ev") (EvKs.nil ⟨_, _, radd_c D1 T (rmulF (qatF x r) (x, 1)).1 (rmulF (qatF x r) (x, 1)).2 u v (by omega) (by omega) (by omega) (by omega), fun p hp => ?r2, ?_⟩)
    case r2 =>
      rcases List.mem_cons.mp hp with rfl | hp
      · exact .inl (.head _)
      · rw [List.mem_singleton.mp hp]; exact .inr (go.hs _ (.tail _ (.tail _ (List.mem_map.mpr ⟨_, List.mem_of_getElem? hT, rfl⟩))))
    rintro v2 σn ⟨D2, rfl, rfl⟩
    exact Ex.nil ⟨D2, lk_eq, by walk_at "lk", .inl (.head _)⟩
  case d =>
    rintro ρ' σ' ⟨D, h1, h2, h3⟩
    rw [hml, Nat.sub_self, List.drop_zero] at h3
    rcases h3 with h3 | ⟨h3, _⟩
    · exact Ex.ret (Ev.name h1) ⟨_, List.singleton_sublist.mpr h3, D, rfl, rfl⟩
    · omega
end Mine.E
namespace Mine.E
theorem fmod_in (x : Int) {m : Int} (hm : 0 < m) : 0 ≤ Int.fmod x m ∧ Int.fmod x m < m := by
  rw [Int.fmod_eq_emod_of_nonneg _ (by omega)]
  exact ⟨Int.emod_nonneg x (by omega), Int.emod_lt_of_pos x hm⟩
abbrev Pool (l : Addr) (spot : Int) : AO := .lst [.ref l, .int spot]
def KD (P l : Addr) (ns : List Int) (spot many : Int) : AV → Led → Prop := fun v σ => ∃ r, v = .int r ∧ 0 ≤ r ∧ r < many ∧ σ = [(P, Pool l (spot + 1)), (l, .ints ns)]
theorem draw_c (P l : Addr) (ns : List Int) (spot many : Int) (hb : ns.length < 100) (hs : 0 ≤ spot ∧ spot < 100) (hm : 0 < many ∧ many < 100) :
    FunM 1 (Str.ofString "_law_draw") [.ref P, .int many] [(P, Pool l spot), (l, .ints ns)] (KD P l ns spot many) := by
  refine FunM.intro (xs := [Str.ofString "pool", Str.ofString "many"]) 35 rfl rfl (fun _ _ _ => bind2 fun _ _ => rfl) rfl (by decide) rfl rfl rfl rfl rfl fun k f cdv go => ?_
  have hm0 : many ≠ 0 := by omega
  refine Ex.assign (Ev.litem (l := [.ref l, .int spot]) (k := 1) (v := .int spot) (by walk_at "ev") (by walk_at "ev") (.inl (.head _)) (by decide) rfl (Nat.le_of_ble_eq_true rfl)) ?_
  refine Ex.setLst (k := 1) (v := .int (spot + 1)) (by walk_at "ev") (by walk_at "ev") (by walk_at "ev") (by decide) (by show (1 : Int) < ((2 : Nat) : Int); decide) (Nat.le_of_ble_eq_true rfl) ?_
  have hp0 : ∀ {e : Env} {ρ : Loc} {p1 p2 p3 : Pos} {kk : Nat}, ρ.lookup (Str.ofString "pool") = some (.ref P) → Ev ⟨k, e⟩ ρ [(P, Pool l (spot + 1)), (l, .ints ns)] (.Subscript (.Name (Str.ofString "pool") p1) (.Constant (.int 0) kk p2) p3) (.ref l) := fun h =>
    Ev.litem (l := [.ref l, .int (spot + 1)]) (k := 0) (v := .ref l) (Ev.name h) Ev.const (.inl (.head _)) (by decide) rfl (Nat.le_of_ble_eq_true rfl)
  refine Ex.ite (R1 := fun ρ' σ' => ρ' = [(Str.ofString "spot", .int spot), (Str.ofString "pool", .ref P), (Str.ofString "many", .int many)] ∧ σ' = [(P, Pool l (spot + 1)), (l, .ints ns)]) (Tst.lt (by walk_at "ev") (Ev.len (by walk_at "gl") (hp0 (by walk_at "lk")) (.inl (.tail _ (.head _))) (by omega))) (fun h => ?_) (fun _ => Ex.nil ⟨rfl, rfl⟩) ?_
  · have hlt : spot.toNat < ns.length := by have := of_decide_eq_true h; omega
    refine Ex.retK (EvK.bin (EvK.abs (by walk_at "gl") (EvK.sub (EvK.pure (hp0 (by walk_at "lk")) ⟨l, .ints ns, spot, .int (ns.getD spot.toNat 0), rfl, by walk_at "ev", .inl (.tail _ (.head _)), hs.1, ?_, (by rw [AO.row, List.length_map]; omega), _, rfl, _, rfl, EvK.pure (by walk_at "ev") ⟨many, _, rfl, (fun _ _ _ _ _ h => mod_int' hm0 (h _ _)), _, rfl, (fmod_in _ hm.1).1, (fmod_in _ hm.1).2, rfl⟩⟩))))
    show (ns.map AV.int)[spot.toNat]? = _
    rw [List.getElem?_map, List.getD_eq_getElem?_getD, List.getElem?_eq_getElem hlt]; rfl
  · rintro ρ' σ' ⟨rfl, rfl⟩
    have h11 := fmod_in spot (m := 11) (by decide)
    refine Ex.retK ?_
    refine EvK.drop ?_
    refine EvK.bin (K := fun v σ' => ∃ σ₂, σ₂.Sublist σ' ∧ KD P l ns spot many v σ₂) ?_
    refine EvK.sub ?_
    refine EvK.tup ?_
    refine EvKs.written (by repeat constructor) ⟨Nat.le_of_ble_eq_true rfl, fun D => ?_⟩
    obtain ⟨y, hy⟩ : ∃ y, ([1, 2, 4, 1, 5, 4, 1, 4, 3, 1, 1].map AV.int)[(Int.fmod spot 11).toNat]? = some (.int y) := by
      rw [List.getElem?_map]
      exact ⟨_, by rw [List.getElem?_eq_getElem (by show _ < 11; omega)]; rfl⟩
    exact ⟨D, _, Int.fmod spot 11, .int y, rfl, Ev.mod (by walk_at "ev") (by walk_at "ev") (by decide), .inl (.head _), h11.1, hy, Nat.le_of_ble_eq_true rfl, _, rfl, EvK.pure (by walk_at "ev") ⟨many, _, rfl, (fun _ _ _ _ _ h => mod_int' hm0 (h _ _)), _, List.sublist_cons_self _ _, _, rfl, (fmod_in _ hm.1).1, (fmod_in _ hm.1).2, rfl⟩⟩
end Mine.E
namespace Mine
theorem ev_zt (x : Int) : ∀ p : List Int, ev (zt p) x = ev p x
  | [] => rfl
  | a :: r => by
    have ih := ev_zt x r
    unfold zt
    split
    · rename_i h
      rw [ev_cons, ← ih, h.2, h.1]; simp [ev]
    · rw [ev_cons, ev_cons, ih]
theorem padd_nil (a : List Int) : padd a [] = a := by
  apply List.ext_getElem
  · simp [padd]
  · intro i h1 h2
    simp [padd, List.getD, List.getElem?_eq_getElem h2]
theorem nil_padd (a : List Int) : padd [] a = a := by
  apply List.ext_getElem
  · simp [padd]
  · intro i h1 h2
    simp [padd, List.getD, List.getElem?_eq_getElem h2]
theorem padd_cons (a b : Int) (r q : List Int) : padd (a :: r) (b :: q) = (a + b) :: padd r q := by
  unfold padd
  rw [List.length_cons, List.length_cons, Nat.add_max_add_right, List.range_succ_eq_map, List.map_cons, List.map_map]
  rfl
theorem ev_padd (x : Int) : ∀ a b : List Int, ev (padd a b) x = ev a x + ev b x
  | [], b => by rw [nil_padd, ev_nil, Int.zero_add]
  | a :: r, [] => by rw [padd_nil, ev_nil, Int.add_zero]
  | a :: r, b :: q => by rw [padd_cons, ev_cons, ev_cons, ev_cons, ev_padd x r q, Int.add_mul]; omega
theorem ev_map_mul (x k : Int) : ∀ p : List Int, ev (p.map (· * k)) x = ev p x * k
  | [] => by simp [ev]
  | a :: r => by rw [List.map_cons, ev_cons, ev_cons, ev_map_mul x k r]; grind
theorem ev_pscale (x k : Int) (p : List Int) : ev (pscale p k) x = ev p x * k := by
  unfold pscale
  split
  · rename_i h; rw [h, Int.mul_zero, ev_nil]
  · exact ev_map_mul x k p
theorem ev_addAt (x v : Int) : ∀ (f : List Int) (i : Nat), i < f.length → ev (addAt f i v) x = ev f x + v * x ^ i
  | [], i, h => by simp at h
  | a :: f, 0, _ => by simp [addAt, ev_cons]; omega
  | a :: f, i + 1, h => by
    have ih := ev_addAt x v f i (by simpa using h)
    have e : addAt (a :: f) (i + 1) v = a :: addAt f i v := by simp [addAt]
    rw [e, ev_cons, ev_cons, ih, Int.pow_succ]; grind
theorem ev_mulRow (x left : Int) : ∀ (b f : List Int) (one : Nat), one + b.length ≤ f.length → ev (mulRow f one left b) x = ev f x + left * x ^ one * ev b x
  | [], f, one, _ => by simp [mulRow, ev]
  | r :: b, f, one, h => by
    simp only [List.length_cons] at h
    rw [mulRow, ev_mulRow x left b _ _ (by rw [addAt_len]; omega), ev_addAt x _ f one (by omega), ev_cons, Int.pow_succ]; grind
theorem ev_mulAll (x : Int) (b : List Int) : ∀ (a f : List Int) (one : Nat), one + a.length + b.length ≤ f.length + 1 → ev (mulAll f one b a) x = ev f x + x ^ one * ev a x * ev b x
  | [], f, one, _ => by simp [mulAll, ev]
  | l :: a, f, one, h => by
    simp only [List.length_cons] at h
    rw [mulAll]
    split
    · rename_i h0
      rw [ev_mulAll x b a f (one + 1) (by omega), ev_cons, h0, Int.pow_succ]; grind
    · rw [ev_mulAll x b a _ (one + 1) (by rw [mulRow_len]; omega), ev_mulRow x l b f one (by omega), ev_cons, Int.pow_succ]; grind
theorem ev_rep (x : Int) : ∀ n : Nat, ev (List.replicate n 0) x = 0
  | 0 => rfl
  | n + 1 => by rw [List.replicate_succ, ev_cons, ev_rep x n]; simp
theorem ev_pmul (x : Int) (a b : List Int) : ev (pmul a b) x = ev a x * ev b x := by
  unfold pmul
  split
  · rename_i h
    rcases h with h | h
    · rw [List.length_eq_zero_iff.mp h]; simp [ev]
    · rw [List.length_eq_zero_iff.mp h]; simp [ev]
  · rename_i h
    rw [ev_mulAll x b a _ 0 (by rw [List.length_replicate]; omega), ev_rep]; simp
theorem ev_pcomp (x : Int) (b : List Int) : ∀ a : List Int, ev (pcomp b a) x = ev a (ev b x)
  | [] => rfl
  | c :: a => by rw [pcomp, ev_zt, ev_padd, ev_pmul, ev_zt, ev_pcomp x b a, ev_cons, ev_cons, ev_nil]; simp
theorem list5 {P : List Int → Prop} (h0 : P []) (h1 : ∀ a, P [a]) (h2 : ∀ a b, P [a, b]) (h3 : ∀ a b c, P [a, b, c]) (h4 : ∀ a b c d, P [a, b, c, d]) (h5 : ∀ a b c d e, P [a, b, c, d, e]) : ∀ p : List Int, p.length ≤ 5 → P p
  | [], _ => h0
  | [a], _ => h1 a
  | [a, b], _ => h2 a b
  | [a, b, c], _ => h3 a b c
  | [a, b, c, d], _ => h4 a b c d
  | [a, b, c, d, e], _ => h5 a b c d e
  | _ :: _ :: _ :: _ :: _ :: _ :: _, h => by simp at h
theorem ev_pshift (n x : Int) (p : List Int) (hp : p.length ≤ 5) : ev (pshift p n) x = ev p (x + n) := by
  refine list5 (P := fun p => ev (pshift p n) x = ev p (x + n)) rfl (fun a => ?_) (fun a b => ?_) (fun a b c => ?_) (fun a b c d => ?_) (fun a b c d e => ?_) p hp <;>
    simp [pshift, shAll, shRow, addAt, ev] <;> grind
theorem ev_rec5 (x : Int) (p : List Int) (hp : p.length ≤ 5) : ev p (x + 5) = 5 * ev p (x + 4) - 10 * ev p (x + 3) + 10 * ev p (x + 2) - 5 * ev p (x + 1) + ev p x := by
  refine list5 (P := fun p => ev p (x + 5) = 5 * ev p (x + 4) - 10 * ev p (x + 3) + 10 * ev p (x + 2) - 5 * ev p (x + 1) + ev p x) (by simp [ev]) (fun a => ?_) (fun a b => ?_) (fun a b c => ?_) (fun a b c d => ?_) (fun a b c d e => ?_) p hp <;>
    simp [ev] <;> grind
end Mine
namespace Mine
theorem dvd_gcdF {e : Int} : ∀ (l : List Int) (f : Int), e ∣ l.foldl (fun f n => ((Int.gcd f n : Nat) : Int)) f ↔ e ∣ f ∧ ∀ x ∈ l, e ∣ x
  | [], f => by simp
  | a :: l, f => by
    rw [List.foldl_cons, dvd_gcdF l]
    have hg : e ∣ ((Int.gcd f a : Nat) : Int) ↔ e ∣ f ∧ e ∣ a := ⟨fun h => ⟨Int.dvd_trans h (Int.gcd_dvd_left ..), Int.dvd_trans h (Int.gcd_dvd_right ..)⟩, fun h => Int.dvd_coe_gcd h.1 h.2⟩
    rw [hg, List.forall_mem_cons, and_assoc]
theorem dvd_gcdL {e : Int} {l : List Int} : e ∣ gcdL l ↔ ∀ x ∈ l, e ∣ x := by
  unfold gcdL
  rw [dvd_gcdF]
  exact ⟨fun h => h.2, fun h => ⟨Int.dvd_zero e, h⟩⟩
theorem gcdF_nonneg : ∀ (l : List Int) (f : Int), 0 ≤ f → 0 ≤ l.foldl (fun f n => ((Int.gcd f n : Nat) : Int)) f
  | [], f, h => h
  | a :: l, f, _ => by rw [List.foldl_cons]; exact gcdF_nonneg l _ (Int.natCast_nonneg _)
theorem gcdL_nonneg (l : List Int) : 0 ≤ gcdL l := gcdF_nonneg l 0 (Int.le_refl 0)
theorem gcdL_eq {a b : List Int} (h : ∀ e, (∀ x ∈ a, e ∣ x) ↔ ∀ x ∈ b, e ∣ x) : gcdL a = gcdL b :=
  Int.dvd_antisymm (gcdL_nonneg a) (gcdL_nonneg b) (dvd_gcdL.mpr ((h _).mp (dvd_gcdL.mp (Int.dvd_refl _)))) (dvd_gcdL.mpr ((h _).mpr (dvd_gcdL.mp (Int.dvd_refl _))))
theorem gcdF_le {B : Int} : ∀ (l : List Int) (f : Int), (∀ x ∈ l, -B ≤ x ∧ x ≤ B) → 0 ≤ f ∧ f ≤ B → l.foldl (fun f n => ((Int.gcd f n : Nat) : Int)) f ≤ B
  | [], f, _, h => h.2
  | a :: l, f, h, hf => by
    rw [List.foldl_cons]
    refine gcdF_le l _ (fun x hx => h x (.tail _ hx)) ⟨Int.natCast_nonneg _, ?_⟩
    by_cases h0 : f = 0
    · subst h0
      rw [Int.gcd_zero_left]
      have := h a (.head _)
      omega
    · have := Int.le_of_dvd (by omega) (Int.gcd_dvd_left f a)
      omega
theorem gcdL_le {l : List Int} {B : Int} (hB : 0 ≤ B) (h : ∀ x ∈ l, -B ≤ x ∧ x ≤ B) : gcdL l ≤ B := gcdF_le l 0 h ⟨Int.le_refl 0, hB⟩
theorem dvd_mul_gcdF {e k : Int} : ∀ (l : List Int) (f : Int), e ∣ k * f → (∀ x ∈ l, e ∣ k * x) → e ∣ k * l.foldl (fun f n => ((Int.gcd f n : Nat) : Int)) f
  | [], f, h, _ => h
  | a :: l, f, h, hl => by
    rw [List.foldl_cons]
    refine dvd_mul_gcdF l _ ?_ (fun x hx => hl x (.tail _ hx))
    have h1 : e ∣ ((Int.gcd (k * f) (k * a) : Nat) : Int) := Int.dvd_coe_gcd h (hl a (.head _))
    rw [Int.gcd_mul_left, Int.natCast_mul] at h1
    rcases Int.natAbs_eq k with hk | hk
    · rw [← hk] at h1; exact h1
    · have h2 : ((k.natAbs : Nat) : Int) = -k := by omega
      rw [h2, Int.neg_mul] at h1
      exact Int.dvd_neg.mp h1
theorem dvd_mul_gcdL {e k : Int} {l : List Int} (h : ∀ x ∈ l, e ∣ k * x) : e ∣ k * gcdL l := dvd_mul_gcdF l 0 (by rw [Int.mul_zero]; exact Int.dvd_zero e) h
/-- e divides every value -/
def AD (e : Int) (p : List Int) : Prop := ∀ x, e ∣ ev p x
theorem rec_up {e a b c d f g : Int} (h : g = 5 * f - 10 * d + 10 * c - 5 * b + a) (ha : e ∣ a) (hb : e ∣ b) (hc : e ∣ c) (hd : e ∣ d) (hf : e ∣ f) : e ∣ g := by
  obtain ⟨a', rfl⟩ := ha; obtain ⟨b', rfl⟩ := hb; obtain ⟨c', rfl⟩ := hc; obtain ⟨d', rfl⟩ := hd; obtain ⟨f', rfl⟩ := hf
  exact ⟨5 * f' - 10 * d' + 10 * c' - 5 * b' + a', by grind⟩
theorem rec_dn {e a b c d f g : Int} (h : g = 5 * f - 10 * d + 10 * c - 5 * b + a) (hg : e ∣ g) (hb : e ∣ b) (hc : e ∣ c) (hd : e ∣ d) (hf : e ∣ f) : e ∣ a := by
  obtain ⟨g', rfl⟩ := hg; obtain ⟨b', rfl⟩ := hb; obtain ⟨c', rfl⟩ := hc; obtain ⟨d', rfl⟩ := hd; obtain ⟨f', rfl⟩ := hf
  exact ⟨g' - 5 * f' + 10 * d' - 10 * c' + 5 * b', by grind⟩
theorem window_up {e : Int} {p : List Int} (hp : p.length ≤ 5) (n : Int) (h : e ∣ ev p n ∧ e ∣ ev p (n + 1) ∧ e ∣ ev p (n + 2) ∧ e ∣ ev p (n + 3) ∧ e ∣ ev p (n + 4)) :
    ∀ k : Nat, e ∣ ev p (n + k) ∧ e ∣ ev p (n + k + 1) ∧ e ∣ ev p (n + k + 2) ∧ e ∣ ev p (n + k + 3) ∧ e ∣ ev p (n + k + 4)
  | 0 => by simpa using h
  | k + 1 => by
    obtain ⟨h0, h1, h2, h3, h4⟩ := window_up hp n h k
    have e1 : n + ((k + 1 : Nat) : Int) = n + (k : Int) + 1 := by omega
    rw [e1, show n + (k : Int) + 1 + 1 = n + k + 2 by omega, show n + (k : Int) + 1 + 2 = n + k + 3 by omega, show n + (k : Int) + 1 + 3 = n + k + 4 by omega, show n + (k : Int) + 1 + 4 = n + k + 5 by omega]
    exact ⟨h1, h2, h3, h4, rec_up (ev_rec5 _ p hp) h0 h1 h2 h3 h4⟩
theorem window_dn {e : Int} {p : List Int} (hp : p.length ≤ 5) (n : Int) (h : e ∣ ev p n ∧ e ∣ ev p (n + 1) ∧ e ∣ ev p (n + 2) ∧ e ∣ ev p (n + 3) ∧ e ∣ ev p (n + 4)) :
    ∀ k : Nat, e ∣ ev p (n - k) ∧ e ∣ ev p (n - k + 1) ∧ e ∣ ev p (n - k + 2) ∧ e ∣ ev p (n - k + 3) ∧ e ∣ ev p (n - k + 4)
  | 0 => by simpa using h
  | k + 1 => by
    obtain ⟨h0, h1, h2, h3, h4⟩ := window_dn hp n h k
    generalize hm : n - ((k + 1 : Nat) : Int) = m
    have e1 : n - (k : Int) = m + 1 := by omega
    rw [e1] at h0 h1 h2 h3 h4
    rw [show m + 1 + 1 = m + 2 by omega] at h1
    rw [show m + 1 + 2 = m + 3 by omega] at h2
    rw [show m + 1 + 3 = m + 4 by omega] at h3
    rw [show m + 1 + 4 = m + 5 by omega] at h4
    exact ⟨rec_dn (ev_rec5 m p hp) h4 h0 h1 h2 h3, h0, h1, h2, h3⟩
theorem window {e : Int} {p : List Int} (hp : p.length ≤ 5) (n : Int) (h : e ∣ ev p n ∧ e ∣ ev p (n + 1) ∧ e ∣ ev p (n + 2) ∧ e ∣ ev p (n + 3) ∧ e ∣ ev p (n + 4)) : AD e p := fun x => by
  by_cases hx : n ≤ x
  · have := (window_up hp n h (x - n).toNat).1
    rwa [show n + ((x - n).toNat : Int) = x by omega] at this
  · have := (window_dn hp n h (n - x).toNat).1
    rwa [show n - ((n - x).toNat : Int) = x by omega] at this
theorem dif_cons (a b : Int) (r : List Int) : dif (a :: b :: r) = (b - a) :: dif (b :: r) := by
  unfold dif
  simp only [List.length_cons, Nat.add_sub_cancel]
  rw [List.range_succ_eq_map, List.map_cons, List.map_map]
  rfl
theorem dif_dvd {e : Int} : ∀ l : List Int, (∀ x ∈ l, e ∣ x) → ∀ x ∈ dif l, e ∣ x
  | [], _ => by simp [dif]
  | [a], _ => by simp [dif]
  | a :: b :: r, h => by
    rw [dif_cons, List.forall_mem_cons]
    exact ⟨Int.dvd_sub (h b (.tail _ (.head _))) (h a (.head _)), dif_dvd (b :: r) fun x hx => h x (.tail _ hx)⟩
theorem of_dif_dvd {e : Int} : ∀ (r : List Int) (a : Int), e ∣ a → (∀ x ∈ dif (a :: r), e ∣ x) → ∀ x ∈ a :: r, e ∣ x
  | [], a, ha, _ => by simpa using ha
  | b :: r, a, ha, h => by
    rw [dif_cons, List.forall_mem_cons] at h
    have hb : e ∣ b := by have := Int.dvd_add h.1 ha; rwa [Int.sub_add_cancel] at this
    rw [List.forall_mem_cons]
    exact ⟨ha, of_dif_dvd r b hb h.2⟩
theorem fdN_dvd {e : Int} : ∀ (n : Nat) (l : List Int), l.length = n → ((∀ x ∈ fdN n l, e ∣ x) ↔ ∀ x ∈ l, e ∣ x)
  | 0, l, h => by rw [List.length_eq_zero_iff.mp h]; simp [fdN]
  | n + 1, [], h => by cases h
  | n + 1, a :: r, h => by
    have hl : (dif (a :: r)).length = n := by rw [dif_len]; simpa using h
    show (∀ x ∈ a :: fdN n (dif (a :: r)), e ∣ x) ↔ _
    rw [List.forall_mem_cons, fdN_dvd n _ hl]
    exact ⟨fun q => of_dif_dvd r a q.1 q.2, fun q => ⟨q a (.head _), dif_dvd _ q⟩⟩
theorem dvd_row {e : Int} {q : List Int} {k : Nat} : e ∣ gcdL (fdF (vals q k)) ↔ ∀ i : Nat, i < k → e ∣ ev q (i : Int) := by
  rw [dvd_gcdL]
  unfold fdF
  rw [fdN_dvd _ _ rfl]
  unfold vals
  constructor
  · intro h i hi
    exact h _ (List.mem_map.mpr ⟨i, List.mem_range.mpr hi, rfl⟩)
  · intro h x hx
    obtain ⟨i, hi, rfl⟩ := List.mem_map.mp hx
    exact h i (List.mem_range.mp hi)
theorem dvd_row5 {e : Int} {p : List Int} (hp : p.length ≤ 5) : e ∣ gcdL (fdF (vals p 5)) ↔ AD e p := by
  rw [dvd_row]
  constructor
  · intro h
    exact window hp 0 ⟨h 0 (by decide), by simpa using h 1 (by decide), by simpa using h 2 (by decide), by simpa using h 3 (by decide), by simpa using h 4 (by decide)⟩
  · intro h i _
    exact h _
theorem dvd_near {e place : Int} {p : List Int} (hp : p.length ≤ 5) : e ∣ gcdL (List.map (fun (k' : Int) => ev p (place + k')) (rangeKs 0 ((5 : Int) - 0).toNat)) ↔ AD e p := by
  rw [dvd_gcdL]
  have hr : rangeKs 0 ((5 : Int) - 0).toNat = [0, 1, 2, 3, 4] := by decide
  rw [hr]
  constructor
  · intro h
    simp only [List.map_cons, List.map_nil, List.forall_mem_cons] at h
    obtain ⟨h0, h1, h2, h3, h4, _⟩ := h
    rw [Int.add_zero] at h0
    exact window hp place ⟨h0, h1, h2, h3, h4⟩
  · intro h x hx
    obtain ⟨k, _, rfl⟩ := List.mem_map.mp hx
    exact h _
theorem dvd_ext {a b : Int} (ha : 0 ≤ a) (hb : 0 ≤ b) (h : ∀ e, e ∣ a ↔ e ∣ b) : a = b := Int.dvd_antisymm ha hb ((h _).mp (Int.dvd_refl _)) ((h _).mpr (Int.dvd_refl _))
theorem AD_shift {e n : Int} {p : List Int} (hp : p.length ≤ 5) : AD e (pshift p n) ↔ AD e p := by
  constructor
  · intro h x
    have := h (x - n)
    rwa [ev_pshift n _ p hp, Int.sub_add_cancel] at this
  · intro h x
    rw [ev_pshift n _ p hp]; exact h _
end Mine
namespace Mine
theorem val5 (p : List Int) (hp : p.length ≤ 5) : ∃ a b c d f : Int, p.getD 0 0 = a ∧ p.getD 1 0 = b ∧ p.getD 2 0 = c ∧ p.getD 3 0 = d ∧ p.getD 4 0 = f ∧
    ∀ x, ev p x = a + b * x + c * (x * x) + d * (x * x * x) + f * (x * x * x * x) := by
  refine ⟨p.getD 0 0, p.getD 1 0, p.getD 2 0, p.getD 3 0, p.getD 4 0, rfl, rfl, rfl, rfl, rfl, ?_⟩
  refine list5 (P := fun p => ∀ x, ev p x = p.getD 0 0 + p.getD 1 0 * x + p.getD 2 0 * (x * x) + p.getD 3 0 * (x * x * x) + p.getD 4 0 * (x * x * x * x)) (fun x => ?_) (fun a x => ?_) (fun a b x => ?_) (fun a b c x => ?_) (fun a b c d x => ?_) (fun a b c d e x => ?_) p hp <;>
    simp [ev] <;> grind
theorem mem5 {p : List Int} (hp : p.length ≤ 5) {x : Int} (hx : x ∈ p) : x = p.getD 0 0 ∨ x = p.getD 1 0 ∨ x = p.getD 2 0 ∨ x = p.getD 3 0 ∨ x = p.getD 4 0 := by
  revert hx
  refine list5 (P := fun p => x ∈ p → (x = p.getD 0 0 ∨ x = p.getD 1 0 ∨ x = p.getD 2 0 ∨ x = p.getD 3 0 ∨ x = p.getD 4 0)) ?_ ?_ ?_ ?_ ?_ ?_ p hp <;> intros <;> simp_all <;> omega
theorem co24 {e a b c d f : Int} (h0 : e ∣ a) (h1 : e ∣ a + b + c + d + f) (h2 : e ∣ a + 2 * b + 4 * c + 8 * d + 16 * f) (h3 : e ∣ a + 3 * b + 9 * c + 27 * d + 81 * f) (h4 : e ∣ a + 4 * b + 16 * c + 64 * d + 256 * f) :
    e ∣ 24 * a ∧ e ∣ 24 * b ∧ e ∣ 24 * c ∧ e ∣ 24 * d ∧ e ∣ 24 * f := by
  obtain ⟨q0, h0⟩ := h0; obtain ⟨q1, h1⟩ := h1; obtain ⟨q2, h2⟩ := h2; obtain ⟨q3, h3⟩ := h3; obtain ⟨q4, h4⟩ := h4
  exact ⟨⟨24 * q0, by grind⟩, ⟨-50 * q0 + 96 * q1 - 72 * q2 + 32 * q3 - 6 * q4, by grind⟩, ⟨35 * q0 - 104 * q1 + 114 * q2 - 56 * q3 + 11 * q4, by grind⟩, ⟨-10 * q0 + 36 * q1 - 48 * q2 + 28 * q3 - 6 * q4, by grind⟩, ⟨q0 - 4 * q1 + 6 * q2 - 4 * q3 + q4, by grind⟩⟩
theorem AD_vals {e : Int} {p : List Int} (hp : p.length ≤ 5) : AD e p ↔ (e ∣ p.getD 0 0 ∧ e ∣ p.getD 0 0 + p.getD 1 0 + p.getD 2 0 + p.getD 3 0 + p.getD 4 0 ∧ e ∣ p.getD 0 0 + 2 * p.getD 1 0 + 4 * p.getD 2 0 + 8 * p.getD 3 0 + 16 * p.getD 4 0 ∧
    e ∣ p.getD 0 0 + 3 * p.getD 1 0 + 9 * p.getD 2 0 + 27 * p.getD 3 0 + 81 * p.getD 4 0 ∧ e ∣ p.getD 0 0 + 4 * p.getD 1 0 + 16 * p.getD 2 0 + 64 * p.getD 3 0 + 256 * p.getD 4 0) := by
  obtain ⟨a, b, c, d, f, ha, hb, hc, hd, hf, h⟩ := val5 p hp
  rw [ha, hb, hc, hd, hf]
  have v0 : ev p 0 = a := by rw [h]; omega
  have v1 : ev p 1 = a + b + c + d + f := by rw [h]; omega
  have v2 : ev p 2 = a + 2 * b + 4 * c + 8 * d + 16 * f := by rw [h]; omega
  have v3 : ev p 3 = a + 3 * b + 9 * c + 27 * d + 81 * f := by rw [h]; omega
  have v4 : ev p 4 = a + 4 * b + 16 * c + 64 * d + 256 * f := by rw [h]; omega
  rw [← v4, ← v3, ← v2, ← v1, ← v0]
  exact ⟨fun q => ⟨q _, q _, q _, q _, q _⟩, fun q => window hp 0 (by simpa using q)⟩
theorem coef24 {e : Int} {p : List Int} (hp : p.length ≤ 5) (h : AD e p) : ∀ x ∈ p, e ∣ 24 * x := fun x hx => by
  obtain ⟨h0, h1, h2, h3, h4⟩ := (AD_vals hp).mp h
  obtain ⟨c0, c1, c2, c3, c4⟩ := co24 h0 h1 h2 h3 h4
  rcases mem5 hp hx with h | h | h | h | h <;> rw [h] <;> assumption
theorem AD_of_coef {e : Int} : ∀ {p : List Int}, (∀ x ∈ p, e ∣ x) → AD e p
  | [], _ => fun x => by rw [ev_nil]; exact Int.dvd_zero e
  | a :: r, h => fun x => by
    rw [ev_cons]
    exact Int.dvd_add (Int.dvd_mul_of_dvd_left (AD_of_coef (fun y hy => h y (.tail _ hy)) x)) (h a (.head _))
theorem zt_nil_all {l : List Int} (h : ∀ x ∈ l, x = 0) : zt l = [] := by
  induction l with
  | nil => rfl
  | cons a r ih =>
    have h1 := ih fun x hx => h x (.tail _ hx)
    unfold zt
    rw [if_pos ⟨h a (.head _), h1⟩]
theorem zt_nil_iff {l : List Int} : zt l = [] ↔ ∀ x ∈ l, x = 0 := by
  refine ⟨fun h => ?_, zt_nil_all⟩
  induction l with
  | nil => intro x hx; cases hx
  | cons a r ih =>
    unfold zt at h
    split at h
    · rename_i q
      rw [List.forall_mem_cons]
      exact ⟨q.1, ih q.2⟩
    · cases h
theorem zt_zt : ∀ l : List Int, zt (zt l) = zt l
  | [] => rfl
  | a :: r => by
    have ih := zt_zt r
    by_cases h : a = 0 ∧ zt r = []
    · rw [show zt (a :: r) = [] by unfold zt; rw [if_pos h]]; rfl
    · rw [show zt (a :: r) = a :: zt r by rw [zt, if_neg h]]
      show (if a = 0 ∧ zt (zt r) = [] then [] else a :: zt (zt r)) = _
      rw [ih, if_neg h]
theorem zero_zt {q : List Int} (hq : q.length ≤ 5) (h : AD 0 q) : zt q = [] := zt_nil_all fun x hx => by
  have := coef24 hq h x hx
  have := Int.zero_dvd.mp this
  omega
theorem fmod_of_dvd {a b : Int} (h : b ∣ a) : Int.fmod a b = 0 := Int.fmod_eq_zero_of_dvd h
theorem dvd_of_fmod {a b : Int} (h : Int.fmod a b = 0) : b ∣ a := Int.dvd_of_fmod_eq_zero h
/-- the row of g -/
theorem row_zero {g : List Int} (hg : g.length ≤ 5) (h : gcdL (fdF (vals g 5)) = 0) : AD 0 g := (dvd_row5 hg).mp (by rw [h]; exact Int.dvd_refl 0)
theorem pC0 {g : List Int} (hg : g.length ≤ 5) (h : gcdL (fdF (vals g 5)) ≠ 0) : gcdL g ≠ 0 := fun e => h (Int.zero_dvd.mp ((dvd_row5 hg).mpr (AD_of_coef (dvd_gcdL.mp (by rw [e]; exact Int.dvd_refl 0)))))
theorem pC1 {g : List Int} (hg : g.length ≤ 5) : Int.fmod (gcdL (fdF (vals g 5))) (gcdL g) = 0 := fmod_of_dvd ((dvd_row5 hg).mpr (AD_of_coef (dvd_gcdL.mp (Int.dvd_refl _))))
theorem pC2 {g : List Int} (hg : g.length ≤ 5) : Int.fmod (24 * gcdL g) (gcdL (fdF (vals g 5))) = 0 := fmod_of_dvd (dvd_mul_gcdL (coef24 hg ((dvd_row5 hg).mp (Int.dvd_refl _))))
theorem pC3 {g : List Int} (hg : g.length ≤ 5) (x : Int) : Int.fmod (ev g x) (gcdL (fdF (vals g 5))) = 0 := fmod_of_dvd ((dvd_row5 hg).mp (Int.dvd_refl _) x)
theorem pD2 {g : List Int} (hg : g.length ≤ 5) (place : Int) : gcdL (fdF (vals g 5)) = gcdL (List.map (fun (k' : Int) => ev g (place + k')) (rangeKs 0 ((5 : Int) - 0).toNat)) :=
  dvd_ext (gcdL_nonneg _) (gcdL_nonneg _) fun e => by rw [dvd_row5 hg, dvd_near hg]
theorem pD1 {pl : List Int} (n : Int) (hp : pl.length ≤ 5) : gcdL (fdF (vals (pshift pl n) 5)) = gcdL (fdF (vals pl 5)) :=
  dvd_ext (gcdL_nonneg _) (gcdL_nonneg _) fun e => by rw [dvd_row5 (by rw [pshift_len]; exact hp), dvd_row5 hp, AD_shift hp]
theorem pD3 {pl : List Int} (n : Int) (hp : pl.length ≤ 5) (hz : zt pl = pl) (h : gcdL (fdF (vals (pshift pl n) 5)) = 0) : pshift pl n = [] := by
  have h1 : pl = [] := by rw [← hz]; exact zero_zt hp ((AD_shift hp).mp (row_zero (by rw [pshift_len]; exact hp) h))
  rw [h1]; rfl
end Mine
namespace Mine
theorem AD2 {p : List Int} (hp : p.length ≤ 5) : AD 2 p ↔ (p.getD 0 0 % 2 = 0 ∧ (p.getD 1 0 + p.getD 2 0 + p.getD 3 0 + p.getD 4 0) % 2 = 0) := by
  rw [AD_vals hp]
  generalize p.getD 0 0 = a; generalize p.getD 1 0 = b; generalize p.getD 2 0 = c; generalize p.getD 3 0 = d; generalize p.getD 4 0 = f
  omega
theorem AD3 {p : List Int} (hp : p.length ≤ 5) : AD 3 p ↔ (p.getD 0 0 % 3 = 0 ∧ (p.getD 1 0 + p.getD 3 0) % 3 = 0 ∧ (p.getD 2 0 + p.getD 4 0) % 3 = 0) := by
  rw [AD_vals hp]
  generalize p.getD 0 0 = a; generalize p.getD 1 0 = b; generalize p.getD 2 0 = c; generalize p.getD 3 0 = d; generalize p.getD 4 0 = f
  omega
theorem pad5 (p : Int) (g : List Int) (hg : g.length ≤ 5) : zt (g.map (Int.fmod · p)) = zt [Int.fmod (g.getD 0 0) p, Int.fmod (g.getD 1 0) p, Int.fmod (g.getD 2 0) p, Int.fmod (g.getD 3 0) p, Int.fmod (g.getD 4 0) p] := by
  refine list5 (P := fun g => zt (g.map (Int.fmod · p)) = zt [Int.fmod (g.getD 0 0) p, Int.fmod (g.getD 1 0) p, Int.fmod (g.getD 2 0) p, Int.fmod (g.getD 3 0) p, Int.fmod (g.getD 4 0) p]) ?_ ?_ ?_ ?_ ?_ ?_ g hg <;> intros <;> simp [zt]
def ck2 (a b c d f : Nat) : Bool := decide (pmod (zt [(a : Int), b, c, d, f]) (pP 2) 2 = []) == decide (((a : Int) % 2 = 0) ∧ ((b : Int) + c + d + f) % 2 = 0)
def ck3 (a b c d f : Nat) : Bool := decide (pmod (zt [(a : Int), b, c, d, f]) (pP 3) 3 = []) == decide (((a : Int) % 3 = 0) ∧ ((b : Int) + d) % 3 = 0 ∧ ((c : Int) + f) % 3 = 0)
theorem all2 : ((List.range 2).all fun a => (List.range 2).all fun b => (List.range 2).all fun c => (List.range 2).all fun d => (List.range 2).all fun f => ck2 a b c d f) = true := by decide +kernel
theorem all3 : ((List.range 3).all fun a => (List.range 3).all fun b => (List.range 3).all fun c => (List.range 3).all fun d => (List.range 3).all fun f => ck3 a b c d f) = true := by decide +kernel
theorem toN {a p : Int} (hp : 0 < p) : ∃ n : Nat, Int.fmod a p = (n : Int) ∧ n < p.toNat ∧ ∀ q, a % p = (n : Int) + 0 * q := by
  have h1 := Int.emod_nonneg a (show p ≠ 0 by omega)
  have h2 := Int.emod_lt_of_pos a hp
  refine ⟨(a % p).toNat, ?_, by omega, fun q => by omega⟩
  rw [Int.fmod_eq_emod_of_nonneg a (by omega)]; omega
theorem pM2 {g : List Int} (hg : g.length ≤ 5) : pmod (zt (g.map (Int.fmod · 2))) (pP 2) 2 = [] ↔ AD 2 g := by
  rw [pad5 2 g hg, AD2 hg]
  obtain ⟨a, ea, la, qa⟩ := toN (a := g.getD 0 0) (show (0 : Int) < 2 by decide)
  obtain ⟨b, eb, lb, qb⟩ := toN (a := g.getD 1 0) (show (0 : Int) < 2 by decide)
  obtain ⟨c, ec, lc, qc⟩ := toN (a := g.getD 2 0) (show (0 : Int) < 2 by decide)
  obtain ⟨d, ed, ld, qd⟩ := toN (a := g.getD 3 0) (show (0 : Int) < 2 by decide)
  obtain ⟨f, ef, lf, qf⟩ := toN (a := g.getD 4 0) (show (0 : Int) < 2 by decide)
  rw [ea, eb, ec, ed, ef]
  have h := all2
  simp only [List.all_eq_true, List.mem_range] at h
  have h1 := h a la b lb c lc d ld f lf
  unfold ck2 at h1
  rw [beq_iff_eq, decide_eq_decide] at h1
  rw [h1]
  have qa := qa 0; have qb := qb 0; have qc := qc 0; have qd := qd 0; have qf := qf 0
  omega
theorem pM3 {g : List Int} (hg : g.length ≤ 5) : pmod (zt (g.map (Int.fmod · 3))) (pP 3) 3 = [] ↔ AD 3 g := by
  rw [pad5 3 g hg, AD3 hg]
  obtain ⟨a, ea, la, qa⟩ := toN (a := g.getD 0 0) (show (0 : Int) < 3 by decide)
  obtain ⟨b, eb, lb, qb⟩ := toN (a := g.getD 1 0) (show (0 : Int) < 3 by decide)
  obtain ⟨c, ec, lc, qc⟩ := toN (a := g.getD 2 0) (show (0 : Int) < 3 by decide)
  obtain ⟨d, ed, ld, qd⟩ := toN (a := g.getD 3 0) (show (0 : Int) < 3 by decide)
  obtain ⟨f, ef, lf, qf⟩ := toN (a := g.getD 4 0) (show (0 : Int) < 3 by decide)
  rw [ea, eb, ec, ed, ef]
  have h := all3
  simp only [List.all_eq_true, List.mem_range] at h
  have h1 := h a la b lb c lc d ld f lf
  unfold ck3 at h1
  rw [beq_iff_eq, decide_eq_decide] at h1
  rw [h1]
  have qa := qa 0; have qb := qb 0; have qc := qc 0; have qd := qd 0; have qf := qf 0
  omega
theorem pmod_short {a b : List Int} {p : Int} (h : a.length < b.length) : pmod a b p = zt a := by
  unfold pmod
  rw [show a.length + 1 - b.length = 0 by omega, dvAll, List.take_of_length_le (by omega)]
theorem pM5 {g : List Int} (hg : g.length ≤ 5) : pmod (zt (g.map (Int.fmod · 5))) (pP 5) 5 = [] ↔ AD 5 g := by
  have h1 := zt_len (g.map (Int.fmod · 5))
  rw [List.length_map] at h1
  rw [pmod_short (by show _ < 6; omega), zt_zt, zt_nil_iff]
  constructor
  · intro h
    exact AD_of_coef fun x hx => dvd_of_fmod (h _ (List.mem_map.mpr ⟨x, hx, rfl⟩))
  · intro h y hy
    obtain ⟨x, hx, rfl⟩ := List.mem_map.mp hy
    have := coef24 hg h x hx
    exact fmod_of_dvd (by omega)
theorem pM {g : List Int} (hg : g.length ≤ 5) (p : Int) (hp : p = 2 ∨ p = 3 ∨ p = 5) : pmod (zt (g.map (Int.fmod · p))) (pP p) p = [] ↔ Int.fmod (gcdL (fdF (vals g 5))) p = 0 := by
  have h : pmod (zt (g.map (Int.fmod · p))) (pP p) p = [] ↔ AD p g := by
    rcases hp with h | h | h <;> subst h
    · exact pM2 hg
    · exact pM3 hg
    · exact pM5 hg
  rw [h, ← dvd_row5 hg]
  exact ⟨fmod_of_dvd, dvd_of_fmod⟩
end Mine
namespace Mine
theorem fd5 (a b c d e : Int) : fdF [a, b, c, d, e] = [a, b - a, c - b - (b - a), d - c - (c - b) - (c - b - (b - a)), e - d - (d - c) - (d - c - (c - b)) - (d - c - (c - b) - (c - b - (b - a)))] := rfl
theorem fd3 (a b c : Int) : fdF [a, b, c] = [a, b - a, c - b - (b - a)] := rfl
theorem vals5 (p : List Int) : vals p 5 = [ev p 0, ev p 1, ev p 2, ev p 3, ev p 4] := rfl
theorem vals3 (p : List Int) : vals p 3 = [ev p 0, ev p 1, ev p 2] := rfl
theorem binS_ex (r0 r1 r2 r3 r4 : Int) : List.map (fun j => binS [r0, r1, r2, r3, r4] j) (rangeKs 0 5) = [r0 - r1 + r2 - r3 + r4, -r1 + 2 * r2 - 3 * r3 + 4 * r4, r2 - 3 * r3 + 6 * r4, -r3 + 4 * r4, r4] := by
  have e : rangeKs 0 5 = [0, 1, 2, 3, 4] := by decide
  have e0 : rangeKs 0 ((5 : Int) - 0).toNat = [0, 1, 2, 3, 4] := by decide
  have e1 : rangeKs 1 ((5 : Int) - 1).toNat = [1, 2, 3, 4] := by decide
  have e2 : rangeKs 2 ((5 : Int) - 2).toNat = [2, 3, 4] := by decide
  have e3 : rangeKs 3 ((5 : Int) - 3).toNat = [3, 4] := by decide
  have e4 : rangeKs 4 ((5 : Int) - 4).toNat = [4] := by decide
  rw [e]
  simp only [List.map_cons, List.map_nil, binS, e0, e1, e2, e3, e4, List.sum_cons, List.sum_nil]
  rw [show binF 0 0 = 1 by decide, show binF 1 0 = 1 by decide, show binF 2 0 = 1 by decide, show binF 3 0 = 1 by decide, show binF 4 0 = 1 by decide,
    show binF 1 1 = 1 by decide, show binF 2 1 = 2 by decide, show binF 3 1 = 3 by decide, show binF 4 1 = 4 by decide,
    show binF 2 2 = 1 by decide, show binF 3 2 = 3 by decide, show binF 4 2 = 6 by decide, show binF 3 3 = 1 by decide, show binF 4 3 = 4 by decide, show binF 4 4 = 1 by decide]
  rw [show Int.fmod 0 2 = 0 by decide, show Int.fmod 1 2 = 1 by decide, show Int.fmod 2 2 = 0 by decide, show Int.fmod 3 2 = 1 by decide, show Int.fmod 4 2 = 0 by decide]
  have g0 : [r0, r1, r2, r3, r4].getD (Int.toNat 0) 0 = r0 := rfl
  have g1 : [r0, r1, r2, r3, r4].getD (Int.toNat 1) 0 = r1 := rfl
  have g2 : [r0, r1, r2, r3, r4].getD (Int.toNat 2) 0 = r2 := rfl
  have g3 : [r0, r1, r2, r3, r4].getD (Int.toNat 3) 0 = r3 := rfl
  have g4 : [r0, r1, r2, r3, r4].getD (Int.toNat 4) 0 = r4 := rfl
  rw [g0, g1, g2, g3, g4]
  simp only [List.cons.injEq, and_true]
  refine ⟨?_, ?_, ?_, ?_, ?_⟩ <;> omega
theorem ev_refl (p : List Int) (x : Int) : ev (pcomp [-1, -1] p) x = ev p (-1 - x) := by
  rw [ev_pcomp]
  congr 1
  simp [ev]; omega
theorem pO2 {g : List Int} (hg : g.length ≤ 5) : fdF (vals (pcomp [-1, -1] g) 5) = List.map (fun j => binS (fdF (vals g 5)) j) (rangeKs 0 5) := by
  rw [vals5 g, fd5, binS_ex, vals5, fd5]
  simp only [ev_refl]
  obtain ⟨a, b, c, d, f, _, _, _, _, _, h⟩ := val5 g hg
  simp only [h]
  simp only [List.cons.injEq, and_true]
  refine ⟨?_, ?_, ?_, ?_, ?_⟩ <;> omega
theorem pO1 {g : List Int} (hg : g.length ≤ 5) : gcdL (fdF (vals (pcomp [-1, -1] g) 5)) = gcdL (fdF (vals g 5)) :=
  dvd_ext (gcdL_nonneg _) (gcdL_nonneg _) fun e => by
    rw [dvd_row5 hg, dvd_row]
    constructor
    · intro h
      have h' : ∀ i : Nat, i < 5 → e ∣ ev g (-1 - (i : Int)) := fun i hi => by have := h i hi; rwa [ev_refl] at this
      have h2 : ∀ (i : Nat) (n : Int), i < 5 → -1 - (i : Int) = n → e ∣ ev g n := fun i n hi hn => hn ▸ h' i hi
      exact window hg (-5) ⟨h2 4 _ (by decide) (by decide), h2 3 _ (by decide) (by decide), h2 2 _ (by decide) (by decide), h2 1 _ (by decide) (by decide), h2 0 _ (by decide) (by decide)⟩
    · intro h i _
      rw [ev_refl]; exact h _
theorem pH1 {g hh : List Int} (hg : g.length ≤ 5) : Int.fmod (gcdL (fdF (vals (pcomp hh g) 9))) (gcdL (fdF (vals g 5))) = 0 :=
  fmod_of_dvd (dvd_row.mpr fun i _ => by rw [ev_pcomp]; exact (dvd_row5 hg).mp (Int.dvd_refl _) _)
theorem list3 {P : List Int → Prop} (h0 : P []) (h1 : ∀ a, P [a]) (h2 : ∀ a b, P [a, b]) (h3 : ∀ a b c, P [a, b, c]) : ∀ p : List Int, p.length ≤ 3 → P p
  | [], _ => h0
  | [a], _ => h1 a
  | [a, b], _ => h2 a b
  | [a, b, c], _ => h3 a b c
  | _ :: _ :: _ :: _ :: _, h => by simp at h
theorem val3 (p : List Int) (hp : p.length ≤ 3) : ∃ a b c : Int, ∀ x, ev p x = a + b * x + c * (x * x) := by
  refine ⟨p.getD 0 0, p.getD 1 0, p.getD 2 0, ?_⟩
  refine list3 (P := fun p => ∀ x, ev p x = p.getD 0 0 + p.getD 1 0 * x + p.getD 2 0 * (x * x)) (fun x => ?_) (fun a x => ?_) (fun a b x => ?_) (fun a b c x => ?_) p hp <;>
    simp [ev] <;> grind
theorem dvd3 {e v0 v1 v2 v : Int} (k0 k1 k2 : Int) (h : v = k0 * v0 + k1 * v1 + k2 * v2) (h0 : e ∣ v0) (h1 : e ∣ v1) (h2 : e ∣ v2) : e ∣ v := by
  obtain ⟨q0, rfl⟩ := h0; obtain ⟨q1, rfl⟩ := h1; obtain ⟨q2, rfl⟩ := h2
  exact ⟨k0 * q0 + k1 * q1 + k2 * q2, by grind⟩
theorem near7 {hh : List Int} (hl : hh.length ≤ 3) : ∀ i : Nat, i < 7 → gcdL (fdF (vals hh 3)) ∣ ev hh (i : Int) := by
  intro i hi
  have h := (dvd_row (q := hh) (k := 3)).mp (Int.dvd_refl _)
  have h0 := h 0 (by decide); have h1 := h 1 (by decide); have h2 := h 2 (by decide)
  generalize gcdL (fdF (vals hh 3)) = e at h0 h1 h2
  obtain ⟨a, b, c, hv⟩ := val3 hh hl
  rw [hv] at h0 h1 h2 ⊢
  have hc : i = 0 ∨ i = 1 ∨ i = 2 ∨ i = 3 ∨ i = 4 ∨ i = 5 ∨ i = 6 := by omega
  rcases hc with q | q | q | q | q | q | q <;> subst q
  · exact h0
  · exact h1
  · exact h2
  · exact dvd3 1 (-3) 3 (by omega) h0 h1 h2
  · exact dvd3 3 (-8) 6 (by omega) h0 h1 h2
  · exact dvd3 6 (-15) 10 (by omega) h0 h1 h2
  · exact dvd3 10 (-24) 15 (by omega) h0 h1 h2
theorem pH2 {g hh : List Int} (hg : g.length ≤ 5) (hl : hh.length ≤ 3) : Int.fmod (gcdL (fdF (vals (pmul g hh) 7))) (gcdL (fdF (vals g 5)) * (if gcdL (fdF (vals hh 3)) > 1 then gcdL (fdF (vals hh 3)) else 1)) = 0 := by
  refine fmod_of_dvd (dvd_row.mpr fun i hi => ?_)
  rw [ev_pmul]
  refine Int.mul_dvd_mul ((dvd_row5 hg).mp (Int.dvd_refl _) _) ?_
  split
  · exact near7 hl i hi
  · exact Int.one_dvd _
theorem pH5 {g hh : List Int} (h : gcdL (fdF (vals g 5)) ≠ 0) : gcdL (fdF (vals g 5)) * (if gcdL (fdF (vals hh 3)) > 1 then gcdL (fdF (vals hh 3)) else 1) ≠ 0 := by
  refine Int.mul_ne_zero h ?_
  split
  · omega
  · decide
theorem zt_mem {x : Int} : ∀ {l : List Int}, x ∈ zt l → x ∈ l
  | [], h => h
  | a :: r, h => by
    unfold zt at h
    split at h
    · cases h
    · rcases List.mem_cons.mp h with h | h
      · exact h ▸ .head _
      · exact .tail _ (zt_mem h)
theorem pHb {x y z : Int} (hx : -2 ≤ x ∧ x ≤ 2) (hy : -2 ≤ y ∧ y ≤ 2) (hz : 0 ≤ z ∧ z ≤ 1) : ∀ a ∈ zt (padd [x, y, z] []), -2 ^ 60 < a ∧ a < 2 ^ 60 := fun a ha => by
  rw [padd_nil] at ha
  have := zt_mem ha
  simp only [List.mem_cons, List.not_mem_nil, or_false] at this
  omega
theorem pH3 {x y z : Int} (hx : -2 ≤ x ∧ x ≤ 2) (hy : -2 ≤ y ∧ y ≤ 2) (hz : 0 ≤ z ∧ z ≤ 1) : gcdL (fdF (vals (zt (padd [x, y, z] [])) 3)) < 2 ^ 60 := by
  have h : gcdL (fdF (vals (zt (padd [x, y, z] [])) 3)) ≤ 4 := by
    refine gcdL_le (by decide) ?_
    rw [vals3, fd3]
    simp only [ev_zt, padd_nil, ev_cons, ev_nil]
    intro q hq
    simp only [List.mem_cons, List.not_mem_nil, or_false] at hq
    omega
  omega
theorem hh_len {x y z : Int} : (zt (padd [x, y, z] [])).length ≤ 3 := by
  have := zt_len (padd [x, y, z] [])
  rw [padd_nil] at this ⊢
  exact this
end Mine
namespace Mine
theorem tb0 : thrBase 0 = [1] := rfl
theorem tb1 : thrBase 1 = [0, 1] := by decide
theorem tb2 : thrBase 2 = [0, -1, 1] := by decide
theorem tb3 : thrBase 3 = [0, 2, -3, 1] := by decide
theorem tb4 : thrBase 4 = [0, -6, 11, -6, 1] := by decide
theorem thr_ev (c : Nat → Int) (x : Int) : ev (thrF c 5) x = c 0 + c 1 * x + c 2 * (-x + x * x) + c 3 * (2 * x - 3 * (x * x) + x * x * x) + c 4 * (-6 * x + 11 * (x * x) - 6 * (x * x * x) + x * x * x * x) := by
  rw [thrF, ev_zt, ev_padd, ev_pscale, thrF, ev_zt, ev_padd, ev_pscale, thrF, ev_zt, ev_padd, ev_pscale, thrF, ev_zt, ev_padd, ev_pscale, thrF, ev_zt, ev_padd, ev_pscale, thrF, tb0, tb1, tb2, tb3, tb4]
  simp only [ev_cons, ev_nil]
  grind
theorem pscale_len (p : List Int) (k : Int) : (pscale p k).length ≤ p.length := by
  unfold pscale
  split
  · simp
  · simp
theorem thr_len (c : Nat → Int) : (thrF c 5).length ≤ 5 := by
  have st : ∀ i n, (thrBase i).length ≤ n → (thrF c i).length ≤ n → (thrF c (i + 1)).length ≤ n := fun i n h1 h2 => by
    rw [thrF]
    have a1 := zt_len (padd (thrF c i) (pscale (thrBase i) (c i)))
    have a2 := padd_len (thrF c i) (pscale (thrBase i) (c i))
    have a3 := pscale_len (thrBase i) (c i)
    omega
  exact st 4 5 (by decide) (st 3 5 (by decide) (st 2 5 (by decide) (st 1 5 (by decide) (st 0 5 (by decide) (by simp [thrF])))))
theorem thr_zt (c : Nat → Int) : zt (thrF c 5) = thrF c 5 := by rw [thrF, zt_zt]
theorem len5 {cs : List Int} (h : cs.length = 5) : ∃ c0 c1 c2 c3 c4, cs = [c0, c1, c2, c3, c4] := by
  match cs, h with
  | [a, b, c, d, e], _ => exact ⟨a, b, c, d, e, rfl⟩
theorem thr_vals (cs : List Int) (c0 c1 c2 c3 c4 : Int) (h : cs = [c0, c1, c2, c3, c4]) :
    ev (thrF (fun j => cs.getD j 0) 5) 0 = c0 ∧ ev (thrF (fun j => cs.getD j 0) 5) 1 = c0 + c1 ∧ ev (thrF (fun j => cs.getD j 0) 5) 2 = c0 + 2 * c1 + 2 * c2 ∧ ev (thrF (fun j => cs.getD j 0) 5) 3 = c0 + 3 * c1 + 6 * c2 + 6 * c3 ∧
      ev (thrF (fun j => cs.getD j 0) 5) 4 = c0 + 4 * c1 + 12 * c2 + 24 * c3 + 24 * c4 := by
  subst h
  have e0 : [c0, c1, c2, c3, c4].getD 0 0 = c0 := rfl
  have e1 : [c0, c1, c2, c3, c4].getD 1 0 = c1 := rfl
  have e2 : [c0, c1, c2, c3, c4].getD 2 0 = c2 := rfl
  have e3 : [c0, c1, c2, c3, c4].getD 3 0 = c3 := rfl
  have e4 : [c0, c1, c2, c3, c4].getD 4 0 = c4 := rfl
  refine ⟨?_, ?_, ?_, ?_, ?_⟩ <;> rw [thr_ev, e0, e1, e2, e3, e4] <;> omega
theorem dueF5 (c0 c1 c2 c3 c4 : Int) : dueF [c0, c1, c2, c3, c4] = [c0, c1, 2 * c2, 6 * c3, 24 * c4] := by
  show [fac 0 * c0, fac 1 * c1, fac 2 * c2, fac 3 * c3, fac 4 * c4] = _
  rw [show fac 0 = 1 by decide, show fac 1 = 1 by decide, show fac 2 = 2 by decide, show fac 3 = 6 by decide, show fac 4 = 24 by decide, Int.one_mul, Int.one_mul]
theorem pP1 {cs : List Int} (hc : cs.length = 5) : fdF (vals (thrF (fun j => cs.getD j 0) 5) 5) = dueF cs := by
  obtain ⟨c0, c1, c2, c3, c4, h⟩ := len5 hc
  obtain ⟨v0, v1, v2, v3, v4⟩ := thr_vals cs c0 c1 c2 c3 c4 h
  rw [vals5, fd5, v0, v1, v2, v3, v4, h, dueF5]
  simp only [List.cons.injEq, and_true]
  refine ⟨?_, ?_, ?_, ?_, ?_⟩ <;> first | omega | exact True.intro
theorem due_le {cs : List Int} (hc : cs.length = 5) (hb : ∀ c ∈ cs, -36 ≤ c ∧ c ≤ 36) : gcdL (dueF cs) ≤ 864 := by
  obtain ⟨c0, c1, c2, c3, c4, rfl⟩ := len5 hc
  have b0 := hb c0 (by simp); have b1 := hb c1 (by simp); have b2 := hb c2 (by simp); have b3 := hb c3 (by simp); have b4 := hb c4 (by simp)
  refine gcdL_le (by decide) ?_
  rw [dueF5]
  intro x hx
  simp only [List.mem_cons, List.not_mem_nil, or_false] at hx
  omega
theorem fdiv_of {a q k : Int} (hk : 0 < k) (h : a = q * k) : Int.fdiv a k = q := by
  subst h; exact Int.mul_fdiv_cancel _ (Int.ne_of_gt hk)
theorem rdv5 (a b c d e : Int) : rdv [a, b, c, d, e] 0 = [Int.fdiv (b - a) 1, Int.fdiv (c - b) 1, Int.fdiv (d - c) 1, Int.fdiv (e - d) 1] := rfl
theorem rdv4 (a b c d : Int) : rdv [a, b, c, d] 1 = [Int.fdiv (b - a) 2, Int.fdiv (c - b) 2, Int.fdiv (d - c) 2] := rfl
theorem rdv3 (a b c : Int) : rdv [a, b, c] 2 = [Int.fdiv (b - a) 3, Int.fdiv (c - b) 3] := rfl
theorem rdv2 (a b : Int) : rdv [a, b] 3 = [Int.fdiv (b - a) 4] := rfl
theorem thr_rows (c0 c1 c2 c3 c4 : Int) (v : List Int) (hv : v = [c0, c0 + c1, c0 + 2 * c1 + 2 * c2, c0 + 3 * c1 + 6 * c2 + 6 * c3, c0 + 4 * c1 + 12 * c2 + 24 * c3 + 24 * c4]) :
    ∀ i : Nat, i < 5 → (thrRow v i).getD 0 0 = [c0, c1, c2, c3, c4].getD i 0 := by
  have r0 : thrRow v 0 = [c0, c0 + c1, c0 + 2 * c1 + 2 * c2, c0 + 3 * c1 + 6 * c2 + 6 * c3, c0 + 4 * c1 + 12 * c2 + 24 * c3 + 24 * c4] := hv
  have r1 : thrRow v 1 = [c1, c1 + 2 * c2, c1 + 4 * c2 + 6 * c3, c1 + 6 * c2 + 18 * c3 + 24 * c4] := by
    rw [thrRow, r0, rdv5]
    simp only [List.cons.injEq, and_true]
    refine ⟨fdiv_of (by decide) (by omega), fdiv_of (by decide) (by omega), fdiv_of (by decide) (by omega), fdiv_of (by decide) (by omega)⟩
  have r2 : thrRow v 2 = [c2, c2 + 3 * c3, c2 + 6 * c3 + 12 * c4] := by
    rw [thrRow, r1, rdv4]
    simp only [List.cons.injEq, and_true]
    refine ⟨fdiv_of (by decide) (by omega), fdiv_of (by decide) (by omega), fdiv_of (by decide) (by omega)⟩
  have r3 : thrRow v 3 = [c3, c3 + 4 * c4] := by
    rw [thrRow, r2, rdv3]
    simp only [List.cons.injEq, and_true]
    refine ⟨fdiv_of (by decide) (by omega), fdiv_of (by decide) (by omega)⟩
  have r4 : thrRow v 4 = [c4] := by
    rw [thrRow, r3, rdv2]
    simp only [List.cons.injEq, and_true]
    exact fdiv_of (by decide) (by omega)
  intro i hi
  have : i = 0 ∨ i = 1 ∨ i = 2 ∨ i = 3 ∨ i = 4 := by omega
  rcases this with h | h | h | h | h <;> subst h
  · rw [r0]; rfl
  · rw [r1]; rfl
  · rw [r2]; rfl
  · rw [r3]; rfl
  · rw [r4]; rfl
theorem thr_list (p : List Int) : List.map (fun (k' : Int) => ev p k') (rangeKs 0 ((5 : Int) - 0).toNat) = [ev p 0, ev p 1, ev p 2, ev p 3, ev p 4] := by
  rw [show rangeKs 0 ((5 : Int) - 0).toNat = [0, 1, 2, 3, 4] by decide]; rfl
theorem pP23 {cs : List Int} (hc : cs.length = 5) : ∀ i : Nat, i < 5 → (thrRow (List.map (fun (k' : Int) => ev (thrF (fun j => cs.getD j 0) 5) k') (rangeKs 0 ((5 : Int) - 0).toNat)) i).getD 0 0 = cs.getD i 0 := by
  obtain ⟨c0, c1, c2, c3, c4, h⟩ := len5 hc
  obtain ⟨v0, v1, v2, v3, v4⟩ := thr_vals cs c0 c1 c2 c3 c4 h
  rw [thr_list, v0, v1, v2, v3, v4]
  have := thr_rows c0 c1 c2 c3 c4 _ rfl
  rw [h]; exact this
theorem pP2 {cs : List Int} (hc : cs.length = 5) (hb : ∀ c ∈ cs, -36 ≤ c ∧ c ≤ 36) : ∀ i, i < (List.map (fun (k' : Int) => ev (thrF (fun j => cs.getD j 0) 5) k') (rangeKs 0 ((5 : Int) - 0).toNat)).length →
    -2 ^ 60 < (thrRow (List.map (fun (k' : Int) => ev (thrF (fun j => cs.getD j 0) 5) k') (rangeKs 0 ((5 : Int) - 0).toNat)) i).getD 0 0 ∧ (thrRow (List.map (fun (k' : Int) => ev (thrF (fun j => cs.getD j 0) 5) k') (rangeKs 0 ((5 : Int) - 0).toNat)) i).getD 0 0 < 2 ^ 60 := by
  intro i hi
  rw [thr_list] at hi
  have hi5 : i < 5 := hi
  rw [pP23 hc i hi5]
  have hlt : i < cs.length := by omega
  have := hb (cs.getD i 0) (by rw [List.getD_eq_getElem?_getD, List.getElem?_eq_getElem hlt]; exact List.getElem_mem hlt)
  omega
theorem pP3 {cs : List Int} (hc : cs.length = 5) : thrF (fun i => (thrRow (List.map (fun (k' : Int) => ev (thrF (fun j => cs.getD j 0) 5) k') (rangeKs 0 ((5 : Int) - 0).toNat)) i).getD 0 0) (List.map (fun (k' : Int) => ev (thrF (fun j => cs.getD j 0) 5) k') (rangeKs 0 ((5 : Int) - 0).toNat)).length = thrF (fun j => cs.getD j 0) 5 := by
  have hl : (List.map (fun (k' : Int) => ev (thrF (fun j => cs.getD j 0) 5) k') (rangeKs 0 ((5 : Int) - 0).toNat)).length = 5 := by rw [thr_list]; rfl
  rw [hl]
  exact thrF_congr 5 (pP23 hc)
end Mine
namespace Mine
def red (X Y : Int) : Int × Int := (Int.fdiv X (ratG X Y), Int.fdiv Y (ratG X Y))
/-- r is the reduced form of H over d -/
structure Red (r : Int × Int) (H d : Int) : Prop where
  pos : 0 < r.2
  eq : r.1 * d = r.2 * H
  one : Int.gcd r.1 r.2 = 1
theorem red_spec {X Y : Int} (hY : 0 < Y) : Red (red X Y) X Y := by
  have hg : 0 < Int.gcd X Y := Int.gcd_pos_of_ne_zero_right _ (by omega)
  have hG : ratG X Y = (Int.gcd X Y : Int) := by unfold ratG; rw [if_pos hY]
  unfold red
  rw [hG]
  generalize hgg : Int.gcd X Y = G at hg
  have h1 : ((G : Nat) : Int) ∣ X := hgg ▸ Int.gcd_dvd_left ..
  have h2 : ((G : Nat) : Int) ∣ Y := hgg ▸ Int.gcd_dvd_right ..
  obtain ⟨x, hx⟩ := h1
  obtain ⟨y, hy⟩ := h2
  have hG0 : 0 < (G : Int) := by omega
  have e1 : Int.fdiv X G = x := fdiv_of hG0 (by rw [hx, Int.mul_comm])
  have e2 : Int.fdiv Y G = y := fdiv_of hG0 (by rw [hy, Int.mul_comm])
  rw [e1, e2]
  refine ⟨?_, ?_, ?_⟩
  · show 0 < y
    rw [hy] at hY
    exact Int.pos_of_mul_pos_right hY hG0
  · show x * Y = y * X
    rw [hx, hy]; grind
  · show Int.gcd x y = 1
    rw [hx, hy, Int.gcd_mul_left, Int.natAbs_natCast] at hgg
    exact Nat.eq_of_mul_eq_mul_left hg (by rw [hgg, Nat.mul_one])
theorem Red.dvd {r : Int × Int} {H d : Int} (h : Red r H d) : r.2 ∣ d := by
  have h1 : r.2 ∣ r.1 * d := ⟨H, h.eq⟩
  have h2 := Int.natAbs_dvd_natAbs.mpr h1
  rw [Int.natAbs_mul] at h2
  have h3 : Nat.Coprime r.2.natAbs r.1.natAbs := by have := h.one; rw [Int.gcd_comm] at this; exact this
  exact Int.natAbs_dvd_natAbs.mp (h3.dvd_of_dvd_mul_left h2)
theorem Red.le {r : Int × Int} {H d : Int} (h : Red r H d) (hd : 0 < d) : r.2 ≤ d := Int.le_of_dvd hd h.dvd
theorem Red.trans {s : Int × Int} {H d X Y : Int} (h : Red s X Y) (hY : 0 < Y) (e : X * d = Y * H) : Red s H d :=
  ⟨h.pos, by
    have h1 := h.eq
    refine Int.eq_of_mul_eq_mul_left (show Y ≠ 0 by omega) ?_
    have a1 : Y * (s.1 * d) = (s.1 * Y) * d := by grind
    have a2 : Y * (s.2 * H) = s.2 * (Y * H) := by grind
    rw [a1, a2, h1, ← e]; grind, h.one⟩
theorem Red.mul {r : Int × Int} {H d : Int} (h : Red r H d) (x : Int) : Red (rmulF r (x, 1)) (H * x) d := by
  have hY : 0 < r.2 * 1 := by have := h.pos; omega
  refine Red.trans (red_spec (X := r.1 * x) (Y := r.2 * 1) hY) hY ?_
  have := h.eq
  have a1 : r.1 * x * d = (r.1 * d) * x := by grind
  rw [a1, this]; grind
theorem Red.add {r q : Int × Int} {H a d : Int} (h : Red r H d) (k : Red q a d) : Red (raddF r q) (H + a) d := by
  have hY : 0 < r.2 * q.2 := Int.mul_pos h.pos k.pos
  refine Red.trans (red_spec (X := r.1 * q.2 + q.1 * r.2) (Y := r.2 * q.2) hY) hY ?_
  have h1 := h.eq
  have h2 := k.eq
  have a1 : (r.1 * q.2 + q.1 * r.2) * d = (r.1 * d) * q.2 + (q.1 * d) * r.2 := by grind
  rw [a1, h1, h2]; grind
theorem Red.elt {d : Int} (hd : 0 < d) (a : Int) : Red (rmulF (a, 1) (1, d)) a d := by
  have hY : 0 < 1 * d := by omega
  exact Red.trans (red_spec (X := a * 1) (Y := 1 * d) hY) hY (by grind)
theorem Red.qat {d : Int} (hd : 0 < d) (x : Int) : ∀ l : List Int, Red (qatF x (List.map (fun p => rmulF p (1, d)) (List.map (fun a => (a, 1)) l))) (ev l x) d
  | [] => ⟨show (0 : Int) < 1 by decide, show (0 : Int) * d = 1 * 0 by omega, show Int.gcd 0 1 = 1 by decide⟩
  | c :: r => by
    rw [List.map_cons, List.map_cons, qatF, ev_cons]
    exact ((Red.qat hd x r).mul x).add (Red.elt hd c)
theorem pq1 {d : Int} (hd : 0 < d) (hd2 : d < 20000) (x : Int) (g : List Int) : ∀ i, i ≤ (List.map (fun p => rmulF p (1, d)) (List.map (fun a => (a, 1)) g)).length →
    0 < (qatF x ((List.map (fun p => rmulF p (1, d)) (List.map (fun a => (a, 1)) g)).drop ((List.map (fun p => rmulF p (1, d)) (List.map (fun a => (a, 1)) g)).length - i))).2 ∧
    (qatF x ((List.map (fun p => rmulF p (1, d)) (List.map (fun a => (a, 1)) g)).drop ((List.map (fun p => rmulF p (1, d)) (List.map (fun a => (a, 1)) g)).length - i))).2 < 20000 := fun i _ => by
  rw [← List.map_drop, ← List.map_drop]
  have h := Red.qat hd x (g.drop ((List.map (fun p => rmulF p (1, d)) (List.map (fun a => (a, 1)) g)).length - i))
  have := h.le hd
  exact ⟨h.pos, by omega⟩
theorem pq2 {d : Int} (hd : 0 < d) (hd2 : d < 20000) (x : Int) (g : List Int) : ∀ i, i ≤ (List.map (fun p => rmulF p (1, d)) (List.map (fun a => (a, 1)) g)).length →
    0 < (rmulF (qatF x ((List.map (fun p => rmulF p (1, d)) (List.map (fun a => (a, 1)) g)).drop ((List.map (fun p => rmulF p (1, d)) (List.map (fun a => (a, 1)) g)).length - i))) (x, 1)).2 ∧
    (rmulF (qatF x ((List.map (fun p => rmulF p (1, d)) (List.map (fun a => (a, 1)) g)).drop ((List.map (fun p => rmulF p (1, d)) (List.map (fun a => (a, 1)) g)).length - i))) (x, 1)).2 < 20000 := fun i _ => by
  rw [← List.map_drop, ← List.map_drop]
  have h := (Red.qat hd x (g.drop ((List.map (fun p => rmulF p (1, d)) (List.map (fun a => (a, 1)) g)).length - i))).mul x
  have := h.le hd
  exact ⟨h.pos, by omega⟩
theorem pq3 {d : Int} (hd : 0 < d) (hd2 : d < 20000) (g : List Int) : ∀ p ∈ (List.map (fun p => rmulF p (1, d)) (List.map (fun a => (a, 1)) g)), 0 < p.2 ∧ p.2 < 20000 := fun p hp => by
  rw [List.map_map] at hp
  obtain ⟨a, _, rfl⟩ := List.mem_map.mp hp
  have h := Red.elt hd a
  have := h.le hd
  exact ⟨h.pos, by show (rmulF (a, 1) (1, d)).2 < 20000; omega⟩
theorem Red.int {r : Int × Int} {H d : Int} (h : Red r H d) (hd : 0 < d) (hH : d ∣ H) : r.1 = Int.fdiv H d ∧ r.2 = 1 := by
  obtain ⟨q, hq⟩ := hH
  have h1 := h.eq
  have e : r.1 = r.2 * q := by
    refine Int.eq_of_mul_eq_mul_left (show d ≠ 0 by omega) ?_
    rw [Int.mul_comm d r.1, h1, hq]; grind
  have h2 : Int.gcd (r.2 * q) r.2 = 1 := by rw [← e]; exact h.one
  rw [Int.gcd_mul_right_left] at h2
  have hp := h.pos
  have e2 : r.2 = 1 := by omega
  refine ⟨?_, e2⟩
  rw [e, e2, hq, Int.one_mul]
  exact (fdiv_of hd (Int.mul_comm d q)).symm
theorem pV {d : Int} {g : List Int} {x : Int} (hd : 0 < d) (h : d ∣ ev g x) : (qatF x (List.map (fun p => rmulF p (1, d)) (List.map (fun a => (a, 1)) g))).1 = Int.fdiv (ev g x) d ∧ (qatF x (List.map (fun p => rmulF p (1, d)) (List.map (fun a => (a, 1)) g))).2 = 1 :=
  (Red.qat hd x g).int hd h
end Mine
namespace Mine.E
/-- a fact that no tactic reads -/
structure Hid (p : Prop) : Prop where
  out : p
noncomputable def lawSt (i : Nat) : Stmt := (recAt 38).body.getD i (.Pass ⟨0, 0, 0, 0⟩)
noncomputable abbrev lawC (k : K0) (f : Addr) (cdv : Value) : Cx := ⟨k, envOfC (Str.ofString "law") (recAt 38).scope k.L f cdv⟩
abbrev Yes : AV → Led → Prop := fun v _ => v = .bool true
abbrev No : Loc → Led → Prop := fun _ _ => False
theorem perm_mid {α : Type} (A S B : List α) : (S ++ (A ++ B)).Perm (A ++ (S ++ B)) := by
  rw [← List.append_assoc, ← List.append_assoc]
  exact List.perm_append_comm.append_right B
section
variable {k : K0} {f : Addr} {cdv : Value} {ρ : Loc} {σ : Led} {K : AV → Led → Prop} {bs : Led}
theorem TstK.cmpC {c : Cx} {ρ : Loc} {σ : Led} {op : CmpOp} {a b : Expr} {pos : Pos} {K : Bool → Led → Prop} (ha : EvK c ρ σ a fun x σ₁ => EvK c ρ σ₁ b fun y σ₂ => ∃ r, Cmp c ρ σ₂ op x y r ∧ K r σ₂) (hm : behindInMarks op b = false := by with_unfolding_all rfl) : TstK c ρ σ (.Compare a [op] [b] pos) K := TstK.cmp ha hm
/-- a draw: the pool stands behind A in the ledger -/
theorem EvK.draw {P l : Addr} {ns : List Int} {spot many : Int} {kk : Nat} {p1 p2 p3 p4 : Pos} (A B : Led) (go : Go k 10 bs) (hn : ρ.lookup (Str.ofString "pool") = some (.ref P)) (hb : ns.length < 100) (hs : 0 ≤ spot ∧ spot < 100) (hm : 0 < many ∧ many < 100)
    (hK : ∀ r, 0 ≤ r → r < many → K (.int r) ((P, Pool l (spot + 1)) :: (l, .ints ns) :: (A ++ B))) :
    EvK (lawC k f cdv) ρ (A ++ ((P, Pool l spot) :: (l, .ints ns) :: B)) (.Call (.Name (Str.ofString "_law_draw") p1) [.Name (Str.ofString "pool") p2, .Constant (.int many) kk p3] [] p4) K := by
  refine EvK.callM (Def.of 35 rfl rfl) go (r := 1) (by decide) (EvKs.p (Ev.name hn) (EvKs.p Ev.const (EvKs.nil ⟨[(P, Pool l spot), (l, .ints ns)], A ++ B, _, perm_mid A _ B, draw_c P l ns spot many hb hs hm, ?_⟩)))
  rintro v σ₁ ⟨r, rfl, h0, h1, rfl⟩
  exact hK r h0 h1
end
/-- the three rows of numbers -/
def TS (ts : List Int) : Prop := ts = [1, 1, 1, 1, 1] ∨ ts = [12, 12, 6, 2, 1] ∨ ts = [6, 3, 3, 1, 5]
theorem TS.at {ts : List Int} (h : TS ts) (i : Nat) (hi : i < 5) : ∃ t, ts[i]? = some t ∧ 1 ≤ t ∧ t ≤ 12 := by
  have : i = 0 ∨ i = 1 ∨ i = 2 ∨ i = 3 ∨ i = 4 := by omega
  rcases h with rfl | rfl | rfl <;> rcases this with rfl | rfl | rfl | rfl | rfl <;> exact ⟨_, rfl, by decide, by decide⟩
theorem TS.len {ts : List Int} (h : TS ts) : ts.length = 5 := by rcases h with rfl | rfl | rfl <;> rfl
section
variable {k : K0} {f : Addr} {cdv : Value} {bs : Led} {rest : List Stmt}
/-- the pool and the row of numbers -/
theorem seg0 {l : Addr} {ns : List Int} (go : Go k 10 bs) (hr : Has k.h₀ l (.ints ns)) (hb : ns.length < 100)
    (hnext : ∀ P q T ns' ts ρ, ns'.length < 100 → TS ts → ρ.lookup (Str.ofString "pool") = some (.ref P) → ρ.lookup (Str.ofString "times") = some (.ref T) → Ex (lawC k f cdv) rest ρ [(P, Pool q 1), (q, .ints ns'), (T, .tup (ts.map .int))] No Yes) :
    Ex (lawC k f cdv) (lawSt 0 :: lawSt 1 :: rest) [(Str.ofString "script", .ref l)] [] No Yes := by
  refine Ex.assignK (EvK.lst (EvKs.cons (EvK.compI (ρ₀ := []) (fun i => (ns.take 11).getD i 0) (Src.new (l := ns.take 11) (EvK.upto (l := ns) (k := 11) (by walk_at "ev") (by walk_at "ev") (.inr hr) (by omega) (by decide) fun D => ⟨D, rfl, rfl⟩)) rfl (by walk_at "cl") (by walk_at "ro") (by rw [List.length_take]; omega) ?t fun q => EvKs.p (by walk_at "ev") (EvKs.nil ⟨Nat.le_of_ble_eq_true rfl, fun P => ?d⟩))))
  case t =>
    rintro C i _ hi ⟨x, hx, rfl⟩
    exact EvK.int (by walk_at "gl") (EvK.pure (by walk_at "ev") ⟨x, rfl, by rw [List.getD_eq_getElem?_getD, hx]; rfl, rfl⟩)
  have hn : (ns.take 11).length < 100 := by rw [List.length_take]; omega
  rw [show (List.range (ns.take 11).length).map (fun i => (ns.take 11).getD i 0) = ns.take 11 from (map_getD id _).trans (List.map_id _)]
  generalize ns.take 11 = ns' at hn
  refine Ex.assignK ?_
  refine EvK.mono (K := fun v σ' => ∃ T ts, v = .ref T ∧ σ' = [(P, Pool q 1), (q, .ints ns'), (T, .tup (ts.map .int))] ∧ TS ts) ?_ ?_
  · refine EvK.drop ?_
    refine EvK.sub2 ?_
    refine EvK.tup ?_
    refine EvKs.cons ?_
    refine EvK.tup ?_
    refine EvKs.written (by repeat constructor) ⟨Nat.le_of_ble_eq_true rfl, fun A => ?_⟩
    refine EvKs.cons ?_
    refine EvK.tup ?_
    refine EvKs.written (by repeat constructor) ⟨Nat.le_of_ble_eq_true rfl, fun B => ?_⟩
    refine EvKs.cons ?_
    refine EvK.tup ?_
    refine EvKs.written (by repeat constructor) ⟨Nat.le_of_ble_eq_true rfl, fun C => ?_⟩
    refine EvKs.nil ⟨Nat.le_of_ble_eq_true rfl, fun W => ?_⟩
    refine EvK.draw [_, _, _, _] [] go (by walk_at "lk") hn (by decide) (by decide) fun r h0 h1 => ?_
    have : r = 0 ∨ r = 1 ∨ r = 2 := by omega
    rcases this with rfl | rfl | rfl
    · exact ⟨W, _, 0, .ref A, rfl, rfl, .inl (.tail _ (.tail _ (.head _))), by decide, rfl, Nat.le_of_ble_eq_true rfl, _, by walk_at "sb", A, _, rfl, rfl, .inl rfl⟩
    · exact ⟨W, _, 1, .ref B, rfl, rfl, .inl (.tail _ (.tail _ (.head _))), by decide, rfl, Nat.le_of_ble_eq_true rfl, _, by walk_at "sb", B, _, rfl, rfl, .inr (.inl rfl)⟩
    · exact ⟨W, _, 2, .ref C, rfl, rfl, .inl (.tail _ (.tail _ (.head _))), by decide, rfl, Nat.le_of_ble_eq_true rfl, _, by walk_at "sb", C, _, rfl, rfl, .inr (.inr rfl)⟩
  · rintro v σ' ⟨T, ts, rfl, rfl, hts⟩
    exact hnext P q T ns' ts _ hn hts (by walk_at "lk") (by walk_at "lk")
end
end Mine.E
namespace Mine.E
/-- the names of the law behind its draws -/
structure LS (ρ : Loc) (Du Dg Dh Dr : Addr) (place d : Int) : Prop where
  due : ρ.lookup (Str.ofString "due") = some (.ref Du)
  g : ρ.lookup (Str.ofString "g") = some (.ref Dg)
  h : ρ.lookup (Str.ofString "h") = some (.ref Dh)
  place : ρ.lookup (Str.ofString "place") = some (.int place)
  row : ρ.lookup (Str.ofString "row") = some (.ref Dr)
  d : ρ.lookup (Str.ofString "d") = some (.int d)
theorem LS.skip {ρ : Loc} {Du Dg Dh Dr : Addr} {place d : Int} (s : LS ρ Du Dg Dh Dr place d) {x : Str} {v : AV} (hx : ([Str.ofString "due", Str.ofString "g", Str.ofString "h", Str.ofString "place", Str.ofString "row", Str.ofString "d"].contains x) = false) : LS ((x, v) :: ρ) Du Dg Dh Dr place d := by
  simp only [List.contains_cons, List.contains_nil, Bool.or_false, Bool.or_eq_false_iff, beq_eq_false_iff_ne] at hx
  obtain ⟨e1, e2, e3, e4, e5, e6⟩ := hx
  have z : ∀ {y : Str} {r : Option AV}, x ≠ y → ρ.lookup y = r → ((x, v) :: ρ : Loc).lookup y = r := fun h e => lk_ne e (beq_eq_false_iff_ne.mpr (Ne.symm h))
  exact ⟨z e1 s.due, z e2 s.g, z e3 s.h, z e4 s.place, z e5 s.row, z e6 s.d⟩
end Mine.E
namespace Mine.E
section
variable {k : K0} {f : Addr} {cdv : Value} {bs : Led} {rest : List Stmt}
theorem row2 (i : Nat) (h : i < 100) : ∀ x ∈ [0 - (i : Int), 1], -1152921504606846976 < x ∧ x < 1152921504606846976 := fun x hx => by
  rcases List.mem_cons.mp hx with e | hx
  · omega
  · rw [List.mem_singleton.mp hx]; omega
/-- the numbers drawn so far -/
structure Cs (cs : List Int) (i : Nat) : Prop where
  len : cs.length = i
  bd : ∀ c ∈ cs, -36 ≤ c ∧ c ≤ 36
theorem Cs.snoc {cs : List Int} {i : Nat} (h : Cs cs i) {n : Int} (hn : -36 ≤ n ∧ n ≤ 36) : Cs (cs ++ [n]) (i + 1) :=
  ⟨by rw [List.length_append, h.len]; rfl, fun c hc => (List.mem_append.mp hc).elim (h.bd c) fun hc => List.mem_singleton.mp hc ▸ hn⟩
theorem thr_snoc {cs : List Int} {i : Nat} (h : cs.length = i) (n : Int) : thrF (fun j => (cs ++ [n]).getD j 0) (i + 1) = zt (padd (thrF (fun j => cs.getD j 0) i) (pscale (thrBase i) n)) := by
  rw [thrF, thrF_congr (d := fun j => cs.getD j 0) i fun j hj => by simp [List.getD, List.getElem?_append_left (by omega : j < cs.length)]]
  have : (cs ++ [n]).getD i 0 = n := by subst h; simp [List.getD]
  rw [this]
/-- the loop that builds the polynomial -/
theorem seg3 {P q T : Addr} {ns ts : List Int} {ρ : Loc} (go : Go k 10 bs) (hn : ns.length < 100) (hts : TS ts) (hP : ρ.lookup (Str.ofString "pool") = some (.ref P)) (hT : ρ.lookup (Str.ofString "times") = some (.ref T))
    (hnext : ∀ Dp Du cs ρ, Cs cs 5 → ρ.lookup (Str.ofString "pool") = some (.ref P) → ρ.lookup (Str.ofString "plain") = some (.ref Dp) → ρ.lookup (Str.ofString "due") = some (.ref Du) →
      Ex (lawC k f cdv) rest ρ [(P, Pool q 6), (q, .ints ns), (Dp, .ints (thrF (fun j => cs.getD j 0) 5)), (Du, .ints (dueF cs))] No Yes) :
    Ex (lawC k f cdv) (lawSt 2 :: lawSt 3 :: rest) ρ [(P, Pool q 1), (q, .ints ns), (T, .tup (ts.map .int))] No Yes := by
  refine Ex.unpack ?_
  refine EvK.tup ?_
  refine EvKs.cons (EvK.list (EvKs.nil ⟨[], rfl, by decide, fun Dp => ?_⟩))
  refine EvKs.cons (EvK.list (EvKs.p (by walk_at "ev") (EvKs.nil ⟨[1], rfl, by show 1 < 1000000; decide, fun Dl => ?_⟩)))
  refine EvKs.cons (EvK.list (EvKs.nil ⟨[], rfl, by decide, fun Du => ?_⟩))
  refine EvKs.p (by walk_at "ev") (EvKs.nil ⟨Nat.le_of_ble_eq_true rfl, fun W => ⟨W, _, rfl, .inl (.head _), [(Du, .ints []), (Dl, .ints [1]), (Dp, .ints []), (P, Pool q 1), (q, .ints ns), (T, .tup (ts.map .int))], _, List.sublist_cons_self _ _, Tg.cons (Tg.cons (Tg.cons (Tg.cons Tg.nil))) (by exact Or.inr ⟨rfl, _, rfl⟩), ?_⟩⟩)
  refine Ex.for (fun i ρ σ => ∃ Dp Dl Du cs, Cs cs i ∧ ρ.lookup (Str.ofString "pool") = some (.ref P) ∧ ρ.lookup (Str.ofString "times") = some (.ref T) ∧ ρ.lookup (Str.ofString "plain") = some (.ref Dp) ∧ ρ.lookup (Str.ofString "line") = some (.ref Dl) ∧ ρ.lookup (Str.ofString "due") = some (.ref Du) ∧ ρ.lookup (Str.ofString "factor") = some (.int (fac i)) ∧
      σ = [(Du, .ints (dueF cs)), (Dl, .ints (thrBase i)), (Dp, .ints (thrF (fun j => cs.getD j 0) i)), (P, Pool q (i + 1)), (q, .ints ns), (T, .tup (ts.map .int))])
    (Src.to 5 (by walk_at "gl") (by walk_at "ev") (by omega) rfl) ⟨Dp, Dl, Du, [], ⟨rfl, fun _ h => nomatch h⟩, by walk_at "lk", by walk_at "lk", by walk_at "lk", by walk_at "lk", by walk_at "lk", by walk_at "lk", rfl⟩ ?t ?d
  case d =>
    rintro ρ' σ' ⟨Dp, Dl, Du, cs, hc, h1, h2, h3, h4, h5, h6, rfl⟩
    refine Ex.perm (σ' := [(P, Pool q 6), (q, .ints ns), (Du, .ints (dueF cs)), (Dl, .ints (thrBase 5)), (Dp, .ints (thrF (fun j => cs.getD j 0) 5)), (T, .tup (ts.map .int))]) (perm_mid [_, _, _] [_, _] [_]) ?_
    refine Ex.perm (σ' := [(P, Pool q 6), (q, .ints ns), (Dp, .ints (thrF (fun j => cs.getD j 0) 5)), (Du, .ints (dueF cs)), (Dl, .ints (thrBase 5)), (T, .tup (ts.map .int))]) (((perm_mid [_, _] [_] [_]).cons _).cons _) ?_
    exact Ex.sub (fun _ _ h => h) (by walk_at "sb") (hnext Dp Du cs ρ' hc h1 h3 h5)
  case t =>
    rintro i _ ρ' σ' hi rfl ⟨Dp, Dl, Du, cs, hc, h1, h2, h3, h4, h5, h6, rfl⟩
    obtain ⟨t, ht, t1, t2⟩ := hts.at i hi
    have tl := hts.len
    refine Ex.assignK ?_
    refine EvK.bin ?_
    refine EvK.pure (v := .int t) (Ev.titem (l := ts.map .int) (k := i) (by walk_at "ev") (by walk_at "ev") (.inl (.tail _ (.tail _ (.tail _ (.tail _ (.tail _ (.head _))))))) (by omega) (by rw [List.getElem?_map, Int.toNat_natCast, ht]; rfl) (by rw [List.length_map]; omega)) ⟨t, rfl, ?_⟩
    refine EvK.bin ?_
    refine EvK.draw [_, _, _] [_] go (by walk_at "lk") hn (by omega) (by decide) fun r h0 h1 => ⟨r, rfl, EvK.pure Ev.const ⟨3, _, rfl, (fun _ _ _ _ _ h => sub_int (h _ _)), _, t * (r - 3), rfl, (fun _ _ _ _ _ h => mul_int (h _ _) (mul_small (by omega))), ?_⟩⟩
    have hnb := num_bound t r t1 t2 h0 h1
    generalize t * (r - 3) = n at hnb
    have hcl := hc.len
    have e1 := thrBase_len i
    have e2 := thrF_len (fun j => cs.getD j 0) i
    have e4 := pscale_len (thrBase i) n
    have hdl : (dueF cs).length = i := by rw [dueF, List.length_map, List.length_range, hcl]
    have hfb := fac_bound i hi
    refine Ex.unpack ?_
    refine EvK.tup ?_
    refine EvKs.cons ?_
    refine EvK.call (Def.of 9 rfl rfl) go (r := 3) (by decide) ?_
    refine EvKs.p (by walk_at "ev") (EvKs.cons ?_)
    refine EvK.call (Def.of 10 rfl rfl) go (r := 2) (by decide) (EvKs.p (by walk_at "ev") (EvKs.p (by walk_at "ev") (EvKs.nil ⟨_, _, zscale_c Dl (thrBase i) n (by omega) (by omega), fun p hp => ?r1, ?_⟩)))
    case r1 => rw [List.mem_singleton.mp hp]; exact .inl (.tail _ (.tail _ (.tail _ (.head _))))
    rintro v σn ⟨D1, rfl, rfl⟩
    refine EvKs.nil ⟨_, _, zadd_c Dp D1 (thrF (fun j => cs.getD j 0) i) (pscale (thrBase i) n) (by omega) (by omega), fun p hp => ?r2, ?_⟩
    case r2 =>
      rcases List.mem_cons.mp hp with rfl | hp
      · exact .inl (.tail _ (.tail _ (.tail _ (.tail _ (.tail _ (.head _))))))
      · rw [List.mem_singleton.mp hp]; exact .inl (.head _)
    rintro v σn ⟨Dp', rfl, rfl⟩
    refine EvKs.cons ?_
    refine EvK.addL ?_
    refine EvK.pure (by walk_at "ev") ⟨Du, rfl, ?_⟩
    refine EvK.list (EvKs.p (Ev.mul (by walk_at "ev") (by walk_at "ev") (mul_small (by omega))) (EvKs.nil ⟨[fac i * n], rfl, by show 1 < 1000000; decide, fun D2 => ⟨D2, dueF cs, [fac i * n], rfl, .inl (.tail _ (.tail _ (.tail _ (.tail _ (.tail _ (.head _)))))), .inl (.head _), by rw [hdl]; show i + 1 < 1000000; omega, fun Du' => ?_⟩⟩))
    refine EvKs.nil ⟨Nat.le_of_ble_eq_true rfl, fun W => ⟨W, _, rfl, .inl (.head _), [(Du', .ints (dueF cs ++ [fac i * n])), (Dp', .ints (zt (padd (thrF (fun j => cs.getD j 0) i) (pscale (thrBase i) n)))), (P, Pool q (i + 1 + 1)), (q, .ints ns), (Dl, .ints (thrBase i)), (T, .tup (ts.map .int))], _, by walk_at "sb", Tg.cons (Tg.cons Tg.nil) (by exact Or.inr ⟨rfl, _, rfl⟩), ?_⟩⟩
    refine Ex.swapped [Str.ofString "line", Str.ofString "factor"] ?_
    refine EvKs.cons ?_
    refine EvK.call (Def.of 11 rfl rfl) go (r := 2) (by decide) ?_
    refine EvKs.p (by walk_at "ev") (EvKs.cons ?_)
    refine EvK.list (EvKs.p (by walk_at "ev") (EvKs.p (by walk_at "ev") (EvKs.nil ⟨[0 - (i : Int), 1], rfl, by show 2 < 1000000; decide, fun D3 => EvKs.nil ⟨_, _, zmul_c Dl D3 (thrBase i) [0 - (i : Int), 1] (by omega) (by show 2 < 400; decide) (row2 i (by omega)), fun p hp => ?r3, ?_⟩⟩)))
    case r3 =>
      rcases List.mem_cons.mp hp with rfl | hp
      · exact .inl (.tail _ (.tail _ (.tail _ (.tail _ (.tail _ (.head _))))))
      · rw [List.mem_singleton.mp hp]; exact .inl (.head _)
    rintro v σn ⟨Dl', rfl, rfl⟩
    refine EvKs.p (Ev.mul (by walk_at "ev") (by walk_at "ev") (mul_small (by omega))) (EvKs.nil ⟨Nat.le_of_ble_eq_true rfl, rfl, _, Tn.cons (Tn.cons Tn.nil), ?_⟩)
    refine Ex.sub (σ' := [(Dl', .ints (thrBase (i + 1))), (Du', .ints (dueF (cs ++ [n]))), (Dp', .ints (thrF (fun j => (cs ++ [n]).getD j 0) (i + 1))), (P, Pool q ((i + 1 : Nat) + 1)), (q, .ints ns), (T, .tup (ts.map .int))]) (fun _ _ h => h) ?_ ?_
    · rw [thr_snoc hcl, dueF_snoc, hcl, thrBase, show -(i : Int) = 0 - i by omega, show (((i + 1 : Nat) : Int) + 1) = i + 1 + 1 by omega]
      walk_at "sb"
    · refine Ex.perm (List.Perm.swap _ _ _) (Ex.nil ⟨Dp', Dl', Du', cs ++ [n], hc.snoc hnb, by walk_at "lk", by walk_at "lk", by walk_at "lk", by walk_at "lk", by walk_at "lk", by walk_at "lk", rfl⟩)
end
end Mine.E
namespace Mine.E
section
variable {k : K0} {f : Addr} {cdv : Value} {bs : Led} {rest : List Stmt}
/-- the first differences are the numbers times the factorials; the values give the polynomial back -/
theorem seg4 {P q Dp Du : Addr} {ns pl due : List Int} {ρ : Loc} (go : Go k 10 bs) (hu : k.un < cLine) (hP : ρ.lookup (Str.ofString "pool") = some (.ref P)) (hp : ρ.lookup (Str.ofString "plain") = some (.ref Dp)) (hd : ρ.lookup (Str.ofString "due") = some (.ref Du))
    (h1 : Hid (fdF (vals pl 5) = due)) (h2 : Hid (∀ i, i < (vals pl 5).length → -1152921504606846976 < (thrRow (vals pl 5) i).getD 0 0 ∧ (thrRow (vals pl 5) i).getD 0 0 < 1152921504606846976)) (h3 : Hid (thrF (fun i => (thrRow (vals pl 5) i).getD 0 0) (vals pl 5).length = pl))
    (hnext : Ex (lawC k f cdv) rest ρ [(P, Pool q 6), (q, .ints ns), (Dp, .ints pl), (Du, .ints due)] No Yes) :
    Ex (lawC k f cdv) (lawSt 4 :: rest) ρ [(P, Pool q 6), (q, .ints ns), (Dp, .ints pl), (Du, .ints due)] No Yes := by
  refine Ex.skip ?_
  refine TstK.orF ?_
  refine TstK.cmpC ?_
  refine EvK.call (Def.of 36 rfl rfl) go (r := 3) (by decide) (EvKs.p (by walk_at "ev") (EvKs.p (by walk_at "ev") (EvKs.nil ⟨_, _, lawrow_c Dp pl 5 (by decide), fun p hp => ?r1, ?_⟩)))
  case r1 => rw [List.mem_singleton.mp hp]; exact .inl (.tail _ (.tail _ (.head _)))
  rintro v σn ⟨D1, rfl, rfl⟩
  refine EvK.pure (by walk_at "ev") ⟨_, Cmp.neL (l1 := fdF (vals pl 5)) (l2 := due) (.inl (.head _)) (.inl (.tail _ (.tail _ (.tail _ (.tail _ (.head _)))))) hu, by rw [h1.out, beq_self_eq_true]; rfl, ?_⟩
  refine TstK.orF ?_
  refine TstK.cmpC ?_
  refine EvK.call (Def.of 17 rfl rfl) go (r := 4) (by decide) (EvKs.cons ?_)
  refine EvK.compI (ρ₀ := [(Str.ofString "plain", .ref Dp)]) (fun i => ev pl (i : Int)) (Src.to 5 (by walk_at "gl") (by walk_at "ev") (by omega) rfl) rfl (by walk_at "cl") (by walk_at "ro") (by decide) ?t fun D2 => ?_
  case t =>
    rintro C i _ hi rfl
    refine EvK.call (Def.of 13 rfl rfl) go (r := 2) (by decide) (EvKs.p (by walk_at "ev") (EvKs.p (by walk_at "ev") (EvKs.nil ⟨_, _, zat_c Dp pl i (by omega), fun p hp => ?_, ?_⟩)))
    · rw [List.mem_singleton.mp hp]; exact .inl (.tail _ (.tail _ (.tail _ (.head _))))
    · rintro v σn ⟨rfl, rfl⟩; exact ⟨rfl, rfl⟩
  refine EvKs.nil ⟨_, _, thr_c D2 (vals pl 5) (by rw [vals_len]; decide) h2.out, fun p hp => ?r2, ?_⟩
  case r2 => rw [List.mem_singleton.mp hp]; exact .inl (.head _)
  rintro v σn ⟨D3, rfl, rfl⟩
  refine EvK.pure (by walk_at "ev") ⟨_, Cmp.neL (l1 := thrF (fun i => (thrRow (vals pl 5) i).getD 0 0) (vals pl 5).length) (l2 := pl) (.inl (.head _)) (.inl (.tail _ (.tail _ (.tail _ (.tail _ (.tail _ (.head _))))))) hu, by rw [h3.out, beq_self_eq_true]; rfl, ?_⟩
  refine TstK.orNil ⟨rfl, ?_⟩
  exact Ex.sub (fun _ _ h => h) (by walk_at "sb") hnext
end
end Mine.E
namespace Mine.E
section
variable {k : K0} {f : Addr} {cdv : Value} {bs : Led} {rest : List Stmt}
/-- more draws: g, h, the place; the row of g and its divisor -/
theorem seg5 {P q Dp Du : Addr} {ns pl due : List Int} {ρ : Loc} (go : Go k 10 bs) (hn : ns.length < 100) (hl : pl.length < 100) (hP : ρ.lookup (Str.ofString "pool") = some (.ref P)) (hp : ρ.lookup (Str.ofString "plain") = some (.ref Dp)) (hd : ρ.lookup (Str.ofString "due") = some (.ref Du))
    (hnext : ∀ Dg Dh Dr mv x y z place ρ, (-2 ≤ x ∧ x ≤ 2) → (-2 ≤ y ∧ y ≤ 2) → (0 ≤ z ∧ z ≤ 1) → (-4 ≤ place ∧ place ≤ 4) → ρ.lookup (Str.ofString "due") = some (.ref Du) → ρ.lookup (Str.ofString "g") = some (.ref Dg) → ρ.lookup (Str.ofString "h") = some (.ref Dh) → ρ.lookup (Str.ofString "place") = some (.int place) → ρ.lookup (Str.ofString "row") = some (.ref Dr) → ρ.lookup (Str.ofString "d") = some (.int (gcdL (fdF (vals (pshift pl mv) 5)))) →
      Ex (lawC k f cdv) rest ρ [(Dr, .ints (fdF (vals (pshift pl mv) 5))), (Dh, .ints (zt (padd [x, y, z] []))), (Dg, .ints (pshift pl mv)), (Du, .ints due)] No Yes) :
    Ex (lawC k f cdv) (lawSt 5 :: lawSt 6 :: lawSt 7 :: lawSt 8 :: lawSt 9 :: lawSt 10 :: lawSt 11 :: rest) ρ [(P, Pool q 6), (q, .ints ns), (Dp, .ints pl), (Du, .ints due)] No Yes := by
  refine Ex.assignK ?_
  refine EvK.bin ?_
  refine EvK.draw [] [_, _] go (by walk_at "lk") hn (by decide) (by decide) fun r h0 h1 => ⟨r, rfl, EvK.pure Ev.const ⟨3, _, rfl, (fun _ _ _ _ _ h => sub_int (h _ _)), ?_⟩⟩
  have hmv : -3 ≤ r - 3 ∧ r - 3 ≤ 3 := by omega
  generalize r - 3 = mv at hmv
  clear h0 h1
  refine Ex.assignK (hx := by exact Or.inr ⟨rfl, _, rfl⟩) ?_
  refine EvK.call (Def.of 14 rfl rfl) go (r := 2) (by decide) (EvKs.p (by walk_at "ev") (EvKs.p (by walk_at "ev") (EvKs.nil ⟨_, _, zshift_c Dp pl mv (by omega) (by omega), fun p hp => ?r1, ?_⟩)))
  case r1 => rw [List.mem_singleton.mp hp]; exact .inl (.tail _ (.tail _ (.head _)))
  rintro v σn ⟨Dg, rfl, rfl⟩
  refine Ex.assignK ?_
  refine EvK.list ?_
  refine EvKs.cons ?_
  refine EvK.bin ?_
  refine EvK.draw [_] [_, _] go (by walk_at "lk") hn (by decide) (by decide) fun r h0 h1 => ⟨r, rfl, EvK.pure Ev.const ⟨2, _, rfl, (fun _ _ _ _ _ h => sub_int (h _ _)), ?_⟩⟩
  have hx : -2 ≤ r - 2 ∧ r - 2 ≤ 2 := by omega
  generalize r - 2 = x at hx
  clear h0 h1
  refine EvKs.cons ?_
  refine EvK.bin ?_
  refine EvK.draw [] [_, _, _] go (by walk_at "lk") hn (by decide) (by decide) fun r h0 h1 => ⟨r, rfl, EvK.pure Ev.const ⟨2, _, rfl, (fun _ _ _ _ _ h => sub_int (h _ _)), ?_⟩⟩
  have hy : -2 ≤ r - 2 ∧ r - 2 ≤ 2 := by omega
  generalize r - 2 = y at hy
  clear h0 h1
  refine EvKs.cons ?_
  refine EvK.draw [] [_, _, _] go (by walk_at "lk") hn (by decide) (by decide) fun z h0 h1 => ?_
  have hz : 0 ≤ z ∧ z ≤ 1 := by omega
  clear h0 h1
  refine EvKs.nil ⟨[x, y, z], rfl, by show 3 < 1000000; decide, fun D1 => ?_⟩
  refine Ex.assignK ?_
  refine EvK.call (Def.of 9 rfl rfl) go (r := 3) (by decide) (EvKs.p (by walk_at "ev") (EvKs.cons ?_))
  refine EvK.list (EvKs.nil ⟨[], rfl, by decide, fun D2 => EvKs.nil ⟨_, _, zadd_c D1 D2 [x, y, z] [] (by show 3 < 1000; decide) (by decide), fun p hp => ?r2, ?_⟩⟩)
  case r2 =>
    rcases List.mem_cons.mp hp with rfl | hp
    · exact .inl (.tail _ (.head _))
    · rw [List.mem_singleton.mp hp]; exact .inl (.head _)
  rintro v σn ⟨Dh, rfl, rfl⟩
  refine Ex.assignK (hx := by exact Or.inr ⟨rfl, _, rfl⟩) ?_
  refine EvK.bin ?_
  refine EvK.draw [_, _, _] [_, _, _] go (by walk_at "lk") hn (by decide) (by decide) fun r h0 h1 => ⟨r, rfl, EvK.pure Ev.const ⟨4, _, rfl, (fun _ _ _ _ _ h => sub_int (h _ _)), ?_⟩⟩
  have hpl : -4 ≤ r - 4 ∧ r - 4 ≤ 4 := by omega
  generalize r - 4 = place at hpl
  clear h0 h1
  refine Ex.sub (σ' := [(Dh, .ints (zt (padd [x, y, z] []))), (Dg, .ints (pshift pl mv)), (Du, .ints due)]) (fun _ _ h => h) (by walk_at "sb") ?_
  refine Ex.assignK (hx := by exact Or.inr ⟨rfl, _, rfl⟩) ?_
  refine EvK.call (Def.of 36 rfl rfl) go (r := 3) (by decide) (EvKs.p (by walk_at "ev") (EvKs.p (by walk_at "ev") (EvKs.nil ⟨_, _, lawrow_c Dg (pshift pl mv) 5 (by decide), fun p hp => ?r3, ?_⟩)))
  case r3 => rw [List.mem_singleton.mp hp]; exact .inl (.tail _ (.head _))
  rintro v σn ⟨Dr, rfl, rfl⟩
  refine Ex.assignK ?_
  refine EvK.call (Def.of 4 rfl rfl) go (r := 2) (by decide) (EvKs.p (by walk_at "ev") (EvKs.nil ⟨_, _, gcdall_c Dr (fdF (vals (pshift pl mv) 5)), fun p hp => ?r4, ?_⟩))
  case r4 => rw [List.mem_singleton.mp hp]; exact .inl (.head _)
  rintro v σn ⟨rfl, rfl⟩
  exact hnext Dg Dh Dr mv x y z place _ hx hy hz hpl (by walk_at "lk") (by walk_at "lk") (by walk_at "lk") (by walk_at "lk") (by walk_at "lk") (by walk_at "lk")
end
end Mine.E
namespace Mine.E
section
variable {k : K0} {f : Addr} {cdv : Value} {bs : Led} {rest : List Stmt} {ρ : Loc} {Du Dg Dh Dr : Addr} {place d : Int} {g hh row due : List Int}
/-- the divisor is that of the first numbers, and of the neighbours' values; nothing is left of a nought -/
theorem seg12 (go : Go k 10 bs) (hu : k.un < cLine) (S : LS ρ Du Dg Dh Dr place d) (hpl : -1000 < place ∧ place < 1000) (h1 : Hid (d = gcdL due)) (h2 : Hid (d = gcdL ((List.range 5).map fun i : Nat => ev g (place + (i : Int))))) (h3 : Hid (d = 0 → g = []))
    (hnext : d ≠ 0 → Ex (lawC k f cdv) rest ρ [(Dr, .ints row), (Dh, .ints hh), (Dg, .ints g), (Du, .ints due)] No Yes) :
    Ex (lawC k f cdv) (lawSt 12 :: lawSt 13 :: rest) ρ [(Dr, .ints row), (Dh, .ints hh), (Dg, .ints g), (Du, .ints due)] No Yes := by
  obtain ⟨s1, s2, s3, s4, s5, s6⟩ := S
  refine Ex.skip ?_
  refine TstK.orF ?_
  refine TstK.cmpC ?_
  refine EvK.pure (by walk_at "ev") ?_
  refine EvK.call (Def.of 4 rfl rfl) go (r := 2) (by decide) (EvKs.p (by walk_at "ev") (EvKs.nil ⟨_, _, gcdall_c Du due, fun p hp => ?r1, ?_⟩))
  case r1 => rw [List.mem_singleton.mp hp]; exact .inl (.tail _ (.tail _ (.tail _ (.head _))))
  rintro v σn ⟨rfl, rfl⟩
  refine ⟨_, cmp_ne, by rw [← h1.out]; exact bne_self_eq_false _, ?_⟩
  refine TstK.orF ?_
  refine TstK.cmpC ?_
  refine EvK.pure (by walk_at "ev") ?_
  refine EvK.call (Def.of 4 rfl rfl) go (r := 2) (by decide) (EvKs.cons ?_)
  refine EvK.compI (ρ₀ := [(Str.ofString "g", .ref Dg), (Str.ofString "place", .int place)]) (fun i : Nat => ev g (place + (i : Int))) (Src.to 5 (by walk_at "gl") (by walk_at "ev") (by omega) rfl) rfl (by walk_at "cl") (by walk_at "ro") (by decide) ?t fun D2 => ?_
  case t =>
    rintro C i _ hi rfl
    refine EvK.call (Def.of 13 rfl rfl) go (r := 2) (by decide) (EvKs.p (by walk_at "ev") (EvKs.p (by walk_at "ev") (EvKs.nil ⟨_, _, zat_c Dg g (place + i) (by omega), fun p hp => ?_, ?_⟩)))
    · rw [List.mem_singleton.mp hp]; exact .inl (.tail _ (.tail _ (.head _)))
    · rintro v σn ⟨rfl, rfl⟩; exact ⟨rfl, rfl⟩
  refine EvKs.nil ⟨_, _, gcdall_c D2 ((List.range 5).map fun i : Nat => ev g (place + (i : Int))), fun p hp => ?r2, ?_⟩
  case r2 => rw [List.mem_singleton.mp hp]; exact .inl (.head _)
  rintro v σn ⟨rfl, rfl⟩
  refine ⟨_, cmp_ne, by rw [← h2.out]; exact bne_self_eq_false _, ?_⟩
  refine TstK.orNil ⟨rfl, ?_⟩
  refine Ex.sub (σ' := [(Dr, .ints row), (Dh, .ints hh), (Dg, .ints g), (Du, .ints due)]) (fun _ _ h => h) (by walk_at "sb") ?_
  refine Ex.ite (R1 := fun ρ' σ' => ρ' = ρ ∧ σ' = [(Dr, .ints row), (Dh, .ints hh), (Dg, .ints g), (Du, .ints due)] ∧ d ≠ 0) (Tst.eq (by walk_at "ev") (by walk_at "ev")) (fun h => ?_) (fun h => Ex.nil ⟨rfl, rfl, by simpa using h⟩) ?_
  · refine Ex.retK ?_
    refine EvK.cmp ?_
    refine EvK.pure (by walk_at "ev") ?_
    refine EvK.list (EvKs.nil ⟨[], rfl, by decide, fun D3 => ⟨_, Cmp.eqL (l1 := g) (l2 := []) (.inl (.tail _ (.tail _ (.tail _ (.head _))))) (.inl (.head _)) hu, ?_⟩⟩)
    rw [h3.out (by simpa using h)]; rfl
  · rintro ρ' σ' ⟨rfl, rfl, hd⟩
    exact hnext hd
/-- the content -/
theorem seg14 (go : Go k 10 bs) (S : LS ρ Du Dg Dh Dr place d) (hpl : -1000 < place ∧ place < 1000) (hd : d ≠ 0) (hc : Hid (gcdL g ≠ 0)) (h1 : Hid (Int.fmod d (gcdL g) = 0)) (h2 : Hid (Int.fmod (24 * gcdL g) d = 0)) (h3 : Hid (Int.fmod (ev g (7 * place + 3)) d = 0))
    (hnext : ∀ ρ, LS ρ Du Dg Dh Dr place d → Ex (lawC k f cdv) rest ρ [(Dr, .ints row), (Dh, .ints hh), (Dg, .ints g), (Du, .ints due)] No Yes) :
    Ex (lawC k f cdv) (lawSt 14 :: lawSt 15 :: rest) ρ [(Dr, .ints row), (Dh, .ints hh), (Dg, .ints g), (Du, .ints due)] No Yes := by
  have hnext := Hid.mk (hnext ((Str.ofString "content", .int (gcdL g)) :: ρ) (S.skip rfl))
  obtain ⟨s1, s2, s3, s4, s5, s6⟩ := S
  refine Ex.assignK ?_
  refine EvK.call (Def.of 12 rfl rfl) go (r := 3) (by decide) (EvKs.p (by walk_at "ev") (EvKs.nil ⟨_, _, zcontent_c Dg g, fun p hp => ?r1, ?_⟩))
  case r1 => rw [List.mem_singleton.mp hp]; exact .inl (.tail _ (.tail _ (.head _)))
  rintro v σn ⟨rfl, rfl⟩
  refine Ex.skip ?_
  refine TstK.orF ?_
  refine TstK.of ((Tst.ne (x := Int.fmod d (gcdL g)) (y := 0) (Ev.mod (by walk_at "ev") (by walk_at "ev") hc.out) (by walk_at "ev")).is (by rw [h1.out]; rfl)) ⟨rfl, ?_⟩
  refine TstK.orF ?_
  refine TstK.of ((Tst.ne (x := Int.fmod (24 * gcdL g) d) (y := 0) (Ev.mod (Ev.mul (by walk_at "ev") (by walk_at "ev") (mul_midL (by decide))) (by walk_at "ev") hd) (by walk_at "ev")).is (by rw [h2.out]; rfl)) ⟨rfl, ?_⟩
  refine TstK.orF ?_
  refine TstK.cmpC ?_
  refine EvK.bin ?_
  refine EvK.call (Def.of 13 rfl rfl) go (r := 2) (by decide) (EvKs.p (by walk_at "ev") (EvKs.p (v := .int (7 * place + 3)) (Ev.add (Ev.mul (by walk_at "ev") (by walk_at "ev") (mul_midL (by decide))) (by walk_at "ev")) (EvKs.nil ⟨_, _, zat_c Dg g (7 * place + 3) (by omega), fun p hp => ?r2, ?_⟩)))
  case r2 => rw [List.mem_singleton.mp hp]; exact .inl (.tail _ (.tail _ (.head _)))
  rintro v σn ⟨rfl, rfl⟩
  refine ⟨_, rfl, EvK.pure (by walk_at "ev") ⟨d, _, rfl, (fun _ _ _ _ _ h => mod_int' hd (h _ _)), ?_⟩⟩
  refine EvK.pure Ev.const ⟨_, cmp_ne, by rw [h3.out]; rfl, ?_⟩
  exact TstK.orNil ⟨rfl, hnext.out⟩
end
end Mine.E
namespace Mine.E
section
variable {k : K0} {f : Addr} {cdv : Value} {bs : Led} {rest : List Stmt} {ρ : Loc} {Du Dg Dh Dr : Addr} {place d : Int} {g hh row due : List Int}
theorem rep_flat (n : Nat) : (List.replicate n [(0 : Int)]).flatten = List.replicate n 0 := by
  induction n with
  | zero => rfl
  | succ n ih => rw [List.replicate_succ, List.flatten_cons, ih]; rfl
theorem pP_eq (p : Int) : pP p = [0, p - 1] ++ List.replicate (p - 2).toNat 0 ++ [1] := by rw [pP, rep_flat]
theorem pP_ok {p : Int} (hp : p = 2 ∨ p = 3 ∨ p = 5) : (pP p).length < 400 ∧ 0 < (pP p).length ∧ (pP p).getD ((pP p).length - 1) 0 = 1 := by rcases hp with rfl | rfl | rfl <;> decide
/-- the primes 2, 3 and 5 -/
theorem seg16 (go : Go k 10 bs) (hu : k.un < cLine) (S : LS ρ Du Dg Dh Dr place d) (hgl : g.length < 100) (h1 : Hid (∀ p : Int, p = 2 ∨ p = 3 ∨ p = 5 → (pmod (zt (g.map (Int.fmod · p))) (pP p) p = [] ↔ Int.fmod d p = 0)))
    (hnext : ∀ ρ, LS ρ Du Dg Dh Dr place d → Ex (lawC k f cdv) rest ρ [(Dr, .ints row), (Dh, .ints hh), (Dg, .ints g), (Du, .ints due)] No Yes) :
    Ex (lawC k f cdv) (lawSt 16 :: rest) ρ [(Dr, .ints row), (Dh, .ints hh), (Dg, .ints g), (Du, .ints due)] No Yes := by
  refine Ex.for (fun _ ρ σ => LS ρ Du Dg Dh Dr place d ∧ σ = [(Dr, .ints row), (Dh, .ints hh), (Dg, .ints g), (Du, .ints due)]) (Src.tup (l := [2, 3, 5]) (by repeat constructor) (by decide)) ⟨S, rfl⟩ ?t fun ρ' σ' h => h.2 ▸ hnext ρ' h.1
  rintro i _ ρ' σ' hi ⟨p, hp, rfl⟩ ⟨S', rfl⟩
  have hp : p = 2 ∨ p = 3 ∨ p = 5 := by
    have := List.mem_of_getElem? hp
    simpa using this
  have hS := Hid.mk (S'.skip (x := Str.ofString "p") (v := .int p) rfl)
  obtain ⟨s1, s2, s3, s4, s5, s6⟩ := S'
  have hz := zt_len (g.map (Int.fmod · p))
  rw [List.length_map] at hz
  refine Ex.skip ?_
  refine TstK.cmpC ?_
  refine EvK.cmp ?_
  refine EvK.call (Def.of 22 rfl rfl) go (r := 5) (by decide) (EvKs.cons ?_)
  refine EvK.call (Def.of 20 rfl rfl) go (r := 3) (by decide) (EvKs.p (by walk_at "ev") (EvKs.p (by walk_at "ev") (EvKs.nil ⟨_, _, mreduce_c Dg g p (by omega) (by omega), fun p hp => ?r1, ?_⟩)))
  case r1 => rw [List.mem_singleton.mp hp]; exact .inl (.tail _ (.tail _ (.head _)))
  rintro v σn ⟨D1, rfl, rfl⟩
  refine EvKs.cons ?_
  refine EvK.addL ?_
  refine EvK.addL ?_
  refine EvK.list (EvKs.p (by walk_at "ev") (EvKs.p (by walk_at "ev") (EvKs.nil ⟨[0, p - 1], rfl, by show 2 < 1000000; decide, fun A => ⟨A, rfl, ?_⟩⟩)))
  refine EvK.rep (by walk_at "ev") (EvK.pure (by walk_at "ev") ⟨rfl, by omega, by omega, fun B => ?_⟩)
  refine ⟨B, [0, p - 1], List.replicate (p - 2).toNat 0, rfl, .inl (.tail _ (.head _)), .inl (.head _), by rw [List.length_replicate]; show 2 + _ < 1000000; omega, fun C => ⟨C, rfl, ?_⟩⟩
  refine EvK.list (EvKs.p (by walk_at "ev") (EvKs.nil ⟨[1], rfl, by show 1 < 1000000; decide, fun D => ?_⟩))
  refine ⟨D, [0, p - 1] ++ List.replicate (p - 2).toNat 0, [1], rfl, .inl (.tail _ (.head _)), .inl (.head _), by rw [List.length_append, List.length_replicate]; show 2 + _ + 1 < 1000000; omega, fun W => ?_⟩
  rw [← pP_eq]
  have hk := pP_ok hp
  refine EvKs.p (by walk_at "ev") (EvKs.nil ⟨_, _, mrest_c D1 W (zt (g.map (Int.fmod · p))) (pP p) p (by omega) hk.1 hk.2.1 hk.2.2 hp, fun p hp => ?r2, ?_⟩)
  case r2 =>
    rcases List.mem_cons.mp hp with rfl | hp
    · exact .inl (.tail _ (.tail _ (.tail _ (.tail _ (.tail _ (.head _))))))
    · rw [List.mem_singleton.mp hp]; exact .inl (.head _)
  rintro v σn ⟨D2, rfl, rfl⟩
  refine EvK.list (EvKs.nil ⟨[], rfl, by decide, fun D3 => ?_⟩)
  refine ⟨_, Cmp.eqL (l1 := pmod (zt (g.map (Int.fmod · p))) (pP p) p) (l2 := []) (.inl (.tail _ (.head _))) (.inl (.head _)) hu, ?_⟩
  refine EvK.cmp ?_
  refine EvK.pure (v := .int (Int.fmod d p)) (Ev.mod (by walk_at "ev") (by walk_at "ev") (by omega)) ?_
  refine EvK.pure Ev.const ⟨_, cmp_eq, _, Cmp.neB, ?_, ?_⟩
  · have := h1.out p hp
    by_cases e : Int.fmod d p = 0
    · rw [this.mpr e, e]; rfl
    · have e2 : ¬ pmod (zt (g.map (Int.fmod · p))) (pP p) p = [] := fun q => e (this.mp q)
      rw [beq_eq_false_iff_ne.mpr e, beq_eq_false_iff_ne.mpr e2]; rfl
  · exact Ex.sub (σ' := [(Dr, .ints row), (Dh, .ints hh), (Dg, .ints g), (Du, .ints due)]) (fun _ _ h => h) (by walk_at "sb") (Ex.nil ⟨hS.out, rfl⟩)
end
end Mine.E
namespace Mine.E
/-- the numbers times the binomials with signs -/
def bS (row : List Int) (j : Nat) : Int := ((List.range (5 - j)).map fun i : Nat => (1 - 2 * Int.fmod ((j : Int) + (i : Int)) 2) * bF ((j : Int) + (i : Int)) j * row.getD (j + i) 0).sum
theorem bS_bd : ∀ j : Nat, j < 5 → ∀ i : Nat, i < 5 - j → -1152921504606846976 < (1 - 2 * Int.fmod ((j : Int) + (i : Int)) 2) * bF ((j : Int) + (i : Int)) j ∧ (1 - 2 * Int.fmod ((j : Int) + (i : Int)) 2) * bF ((j : Int) + (i : Int)) j < 1152921504606846976 := by decide
section
variable {k : K0} {f : Addr} {cdv : Value} {bs : Led} {rest : List Stmt} {ρ : Loc} {Du Dg Dh Dr : Addr} {place d : Int} {g hh row due : List Int}
theorem row3 : ∀ x ∈ [(-1 : Int), -1], -1152921504606846976 < x ∧ x < 1152921504606846976 := by decide
/-- the other row -/
theorem seg17 (go : Go k 10 bs) (hu : k.un < cLine) (S : LS ρ Du Dg Dh Dr place d) (hgl : g.length < 10) (hrl : row.length = 5) (h1 : Hid (gcdL (fdF (vals (pcomp [-1, -1] g) 5)) = d)) (h2 : Hid (fdF (vals (pcomp [-1, -1] g) 5) = (List.range 5).map (bS row)))
    (hnext : ∀ ρ, LS ρ Du Dg Dh Dr place d → Ex (lawC k f cdv) rest ρ [(Dr, .ints row), (Dh, .ints hh), (Dg, .ints g), (Du, .ints due)] No Yes) :
    Ex (lawC k f cdv) (lawSt 17 :: lawSt 18 :: rest) ρ [(Dr, .ints row), (Dh, .ints hh), (Dg, .ints g), (Du, .ints due)] No Yes := by
  have hnext := fun a => Hid.mk (hnext ((Str.ofString "other", .ref a) :: ρ) (S.skip rfl))
  obtain ⟨s1, s2, s3, s4, s5, s6⟩ := S
  refine Ex.assignK ?_
  refine EvK.call (Def.of 36 rfl rfl) go (r := 3) (by decide) (EvKs.cons ?_)
  refine EvK.call (Def.of 15 rfl rfl) go (r := 4) (by decide) (EvKs.p (by walk_at "ev") (EvKs.cons ?_))
  refine EvK.list (EvKs.p (by walk_at "ev") (EvKs.p (by walk_at "ev") (EvKs.nil ⟨[-1, -1], rfl, by show 2 < 1000000; decide, fun A => EvKs.nil ⟨_, _, zcompose_c Dg A g [-1, -1] hgl (by show 2 < 10; decide) row3, fun p hp => ?r1, ?_⟩⟩)))
  case r1 =>
    rcases List.mem_cons.mp hp with rfl | hp
    · exact .inl (.tail _ (.tail _ (.tail _ (.head _))))
    · rw [List.mem_singleton.mp hp]; exact .inl (.head _)
  rintro v σn ⟨B, rfl, rfl⟩
  refine EvKs.p (by walk_at "ev") (EvKs.nil ⟨_, _, lawrow_c B (pcomp [-1, -1] g) 5 (by decide), fun p hp => ?r2, ?_⟩)
  case r2 => rw [List.mem_singleton.mp hp]; exact .inl (.head _)
  rintro v σn ⟨Do, rfl, rfl⟩
  replace hnext := hnext Do
  have e5 : (5 : Int).toNat = 5 := rfl
  rw [e5]
  have hoth := h2
  generalize fdF (vals (pcomp [-1, -1] g) 5) = oth at h1 h2 ⊢
  clear hoth
  refine Ex.sub (σ' := [(Do, .ints oth), (Dr, .ints row), (Dh, .ints hh), (Dg, .ints g), (Du, .ints due)]) (fun _ _ h => h) (by walk_at "sb") ?_
  refine Ex.skip ?_
  refine TstK.orF ?_
  refine TstK.cmpC ?_
  refine EvK.pure (by walk_at "ev") ?_
  refine EvK.compC (ρ₀ := [(Str.ofString "row", .ref Dr)]) (bS row) (Src.to 5 (by walk_at "gl") (by walk_at "ev") (by omega) rfl) rfl (by intro _; rfl) (by intro _; rfl) rfl (by decide) rfl (by walk_at "cl") (by walk_at "ro") rfl (by decide) ?t fun D2 => ?_
  case t =>
    rintro C X j _ hj rfl
    refine EvK.drop ?_
    refine EvK.sum (by walk_at "gl") ?_
    refine EvK.compI (ρ₀ := [(Str.ofString "j", .int (j : Int)), (Str.ofString "row", .ref Dr)]) (fun i : Nat => (1 - 2 * Int.fmod ((j : Int) + (i : Int)) 2) * bF ((j : Int) + (i : Int)) j * row.getD (j + i) 0) (Src.fromTo (a := (j : Int)) (b := 5) (5 - j) (by walk_at "gl") (by walk_at "ev") (by walk_at "ev") (by omega) (by omega)) rfl (by walk_at "cl") (by walk_at "ro") (by omega) ?u fun D3 => ⟨D3, _, rfl, .inl (.head _), _, List.sublist_cons_self _ _, rfl, rfl⟩
    rintro C2 i _ hi rfl
    have hb := bS_bd j hj i hi
    have hf := fmod_in ((j : Int) + (i : Int)) (m := 2) (by decide)
    refine EvK.bin ?_
    refine EvK.bin ?_
    refine EvK.pure (v := .int (1 - 2 * Int.fmod ((j : Int) + (i : Int)) 2)) (Ev.sub (by walk_at "ev") (Ev.mul (by walk_at "ev") (Ev.mod (by walk_at "ev") (by walk_at "ev") (by decide)) (mul_midL (by decide)))) ⟨_, rfl, ?_⟩
    refine EvK.call (Def.of 37 rfl rfl) go (r := 1) (by decide) (EvKs.p (by walk_at "ev") (EvKs.p (by walk_at "ev") (EvKs.nil ⟨_, _, binom_c ((j : Int) + (i : Int)) (j : Int) (by omega), (fun _ h => nomatch h), ?_⟩)))
    rintro v σn ⟨rfl, rfl⟩
    rw [Int.toNat_natCast]
    refine ⟨_, (1 - 2 * Int.fmod ((j : Int) + (i : Int)) 2) * bF ((j : Int) + (i : Int)) j, rfl, (fun _ _ _ _ _ h => mul_int (h _ _) (mul_midL (by omega))), _, rfl, ?_⟩
    refine EvK.pure (Ev.item (l := row) (k := (j : Int) + (i : Int)) (by walk_at "ev") (by walk_at "ev") (.inl (.tail _ (.head _))) (by omega) (by omega) (by omega)) ?_
    rw [show ((j : Int) + (i : Int)).toNat = j + i by omega]
    exact ⟨_, _, rfl, (fun _ _ _ _ _ h => mul_int (h _ _) (mul_midL hb)), rfl, rfl⟩
  refine ⟨_, Cmp.neL (l1 := oth) (l2 := (List.range 5).map (bS row)) (.inl (.tail _ (.head _))) (.inl (.head _)) hu, by rw [← h2.out, beq_self_eq_true]; rfl, ?_⟩
  refine TstK.orF ?_
  refine TstK.cmpC ?_
  refine EvK.call (Def.of 4 rfl rfl) go (r := 2) (by decide) (EvKs.p (by walk_at "ev") (EvKs.nil ⟨_, _, gcdall_c Do oth, fun p hp => ?r3, ?_⟩))
  case r3 => rw [List.mem_singleton.mp hp]; exact .inl (.tail _ (.head _))
  rintro v σn ⟨rfl, rfl⟩
  refine EvK.pure (by walk_at "ev") ⟨_, cmp_ne, by rw [h1.out]; exact bne_self_eq_false _, ?_⟩
  refine TstK.orNil ⟨rfl, ?_⟩
  exact Ex.sub (fun _ _ h => h) (by walk_at "sb") hnext.out
end
end Mine.E
namespace Mine.E
section
variable {k : K0} {f : Addr} {cdv : Value} {bs : Led} {rest : List Stmt} {ρ : Loc} {Du Dg Dh Dr : Addr} {place d : Int} {g hh row due : List Int}
/-- g at h, g times h -/
theorem seg19 (go : Go k 10 bs) (S : LS ρ Du Dg Dh Dr place d) (hgl : g.length < 10) (hhl : hh.length < 10) (hd : d ≠ 0) (hb : Hid (∀ x ∈ hh, -1152921504606846976 < x ∧ x < 1152921504606846976)) (h0 : Hid (0 ≤ gcdL (fdF (vals hh 3)) ∧ gcdL (fdF (vals hh 3)) < 1152921504606846976))
    (h1 : Hid (Int.fmod (gcdL (fdF (vals (pcomp hh g) 9))) d = 0)) (h2 : Hid (Int.fmod (gcdL (fdF (vals (pmul g hh) 7))) (d * (if gcdL (fdF (vals hh 3)) > 1 then gcdL (fdF (vals hh 3)) else 1)) = 0)) (h3 : Hid (d * (if gcdL (fdF (vals hh 3)) > 1 then gcdL (fdF (vals hh 3)) else 1) ≠ 0))
    (hnext : Ex (lawC k f cdv) rest ρ [(Dr, .ints row), (Dh, .ints hh), (Dg, .ints g), (Du, .ints due)] No Yes) :
    Ex (lawC k f cdv) (lawSt 19 :: rest) ρ [(Dr, .ints row), (Dh, .ints hh), (Dg, .ints g), (Du, .ints due)] No Yes := by
  obtain ⟨s1, s2, s3, s4, s5, s6⟩ := S
  refine Ex.skip ?_
  refine TstK.orF ?_
  refine TstK.cmpC ?_
  refine EvK.bin ?_
  refine EvK.call (Def.of 4 rfl rfl) go (r := 2) (by decide) (EvKs.cons ?_)
  refine EvK.call (Def.of 36 rfl rfl) go (r := 3) (by decide) (EvKs.cons ?_)
  refine EvK.call (Def.of 15 rfl rfl) go (r := 4) (by decide) (EvKs.p (by walk_at "ev") (EvKs.p (by walk_at "ev") (EvKs.nil ⟨_, _, zcompose_c Dg Dh g hh hgl hhl hb.out, fun p hp => ?r1, ?_⟩)))
  case r1 =>
    rcases List.mem_cons.mp hp with rfl | hp
    · exact .inl (.tail _ (.tail _ (.head _)))
    · rw [List.mem_singleton.mp hp]; exact .inl (.tail _ (.head _))
  rintro v σn ⟨A, rfl, rfl⟩
  refine EvKs.p (by walk_at "ev") (EvKs.nil ⟨_, _, lawrow_c A (pcomp hh g) 9 (by decide), fun p hp => ?r2, ?_⟩)
  case r2 => rw [List.mem_singleton.mp hp]; exact .inl (.head _)
  rintro v σn ⟨B, rfl, rfl⟩
  refine EvKs.nil ⟨_, _, gcdall_c B (fdF (vals (pcomp hh g) 9)), fun p hp => ?r3, ?_⟩
  case r3 => rw [List.mem_singleton.mp hp]; exact .inl (.head _)
  rintro v σn ⟨rfl, rfl⟩
  refine ⟨_, rfl, EvK.pure (by walk_at "ev") ⟨d, _, rfl, (fun _ _ _ _ _ h => mod_int' hd (h _ _)), ?_⟩⟩
  refine EvK.pure Ev.const ⟨_, cmp_ne, by rw [h1.out]; rfl, ?_⟩
  refine TstK.orF ?_
  refine TstK.cmpC ?_
  refine EvK.bin ?_
  refine EvK.call (Def.of 4 rfl rfl) go (r := 2) (by decide) (EvKs.cons ?_)
  refine EvK.call (Def.of 36 rfl rfl) go (r := 3) (by decide) (EvKs.cons ?_)
  refine EvK.call (Def.of 11 rfl rfl) go (r := 2) (by decide) (EvKs.p (by walk_at "ev") (EvKs.p (by walk_at "ev") (EvKs.nil ⟨_, _, zmul_c Dg Dh g hh (by omega) (by omega) hb.out, fun p hp => ?r4, ?_⟩)))
  case r4 =>
    rcases List.mem_cons.mp hp with rfl | hp
    · exact .inl (.tail _ (.tail _ (.tail _ (.tail _ (.head _)))))
    · rw [List.mem_singleton.mp hp]; exact .inl (.tail _ (.tail _ (.tail _ (.head _))))
  rintro v σn ⟨C, rfl, rfl⟩
  refine EvKs.p (by walk_at "ev") (EvKs.nil ⟨_, _, lawrow_c C (pmul g hh) 7 (by decide), fun p hp => ?r5, ?_⟩)
  case r5 => rw [List.mem_singleton.mp hp]; exact .inl (.head _)
  rintro v σn ⟨D, rfl, rfl⟩
  refine EvKs.nil ⟨_, _, gcdall_c D (fdF (vals (pmul g hh) 7)), fun p hp => ?r6, ?_⟩
  case r6 => rw [List.mem_singleton.mp hp]; exact .inl (.head _)
  rintro v σn ⟨rfl, rfl⟩
  refine ⟨_, rfl, ?_⟩
  refine EvK.bin ?_
  refine EvK.pure (by walk_at "ev") ⟨d, rfl, ?_⟩
  refine EvK.max (by walk_at "gl") (EvKs.p (by walk_at "ev") (EvKs.cons ?_))
  refine EvK.call (Def.of 4 rfl rfl) go (r := 2) (by decide) (EvKs.cons ?_)
  refine EvK.call (Def.of 36 rfl rfl) go (r := 3) (by decide) (EvKs.p (by walk_at "ev") (EvKs.p (by walk_at "ev") (EvKs.nil ⟨_, _, lawrow_c Dh hh 3 (by decide), fun p hp => ?r7, ?_⟩)))
  case r7 => rw [List.mem_singleton.mp hp]; exact .inl (.tail _ (.tail _ (.tail _ (.tail _ (.tail _ (.head _))))))
  rintro v σn ⟨F, rfl, rfl⟩
  refine EvKs.nil ⟨_, _, gcdall_c F (fdF (vals hh 3)), fun p hp => ?r8, ?_⟩
  case r8 => rw [List.mem_singleton.mp hp]; exact .inl (.head _)
  rintro v σn ⟨rfl, rfl⟩
  refine EvKs.nil ⟨_, _, rfl, ?_⟩
  have hm : IntMulOk d (if gcdL (fdF (vals hh 3)) > 1 then gcdL (fdF (vals hh 3)) else 1) := mul_mid (by have := h0.out; split <;> omega)
  refine ⟨_, _, rfl, (fun _ _ _ _ _ h => mul_int (h _ _) hm), _, _, rfl, (fun _ _ _ _ _ h => mod_int' h3.out (h _ _)), ?_⟩
  refine EvK.pure Ev.const ⟨_, cmp_ne, by rw [h2.out]; rfl, ?_⟩
  refine TstK.orNil ⟨rfl, ?_⟩
  exact Ex.sub (fun _ _ h => h) (by walk_at "sb") hnext
/-- g by its divisor has whole values -/
theorem seg20 (go : Go k 10 bs) (hu : k.un < cLine) (S : LS ρ Du Dg Dh Dr place d) (hgl : g.length < 100) (hg0 : 0 < g.length) (hpl : -1000 < place ∧ place < 1000) (hd : 0 < d ∧ d < 20000)
    (h1 : Hid (∀ i, i ≤ g.length → 0 < (qatF (place - 5) ((List.map (fun p => rmulF p (1, d)) (List.map (fun a => (a, 1)) g)).drop (g.length - i))).2 ∧ (qatF (place - 5) ((List.map (fun p => rmulF p (1, d)) (List.map (fun a => (a, 1)) g)).drop (g.length - i))).2 < 20000))
    (h2 : Hid (∀ i, i ≤ g.length → 0 < (rmulF (qatF (place - 5) ((List.map (fun p => rmulF p (1, d)) (List.map (fun a => (a, 1)) g)).drop (g.length - i))) (place - 5, 1)).2 ∧ (rmulF (qatF (place - 5) ((List.map (fun p => rmulF p (1, d)) (List.map (fun a => (a, 1)) g)).drop (g.length - i))) (place - 5, 1)).2 < 20000))
    (h3 : Hid (∀ p ∈ List.map (fun p => rmulF p (1, d)) (List.map (fun a => (a, (1 : Int))) g), 0 < p.2 ∧ p.2 < 20000))
    (h4 : Hid ((qatF (place - 5) (List.map (fun p => rmulF p (1, d)) (List.map (fun a => (a, 1)) g))).1 = Int.fdiv (ev g (place - 5)) d)) (h5 : Hid ((qatF (place - 5) (List.map (fun p => rmulF p (1, d)) (List.map (fun a => (a, 1)) g))).2 = 1)) :
    Ex (lawC k f cdv) [lawSt 20] ρ [(Dr, .ints row), (Dh, .ints hh), (Dg, .ints g), (Du, .ints due)] No Yes := by
  obtain ⟨s1, s2, s3, s4, s5, s6⟩ := S
  refine Ex.retK ?_
  refine EvK.cmp ?_
  refine EvK.call (Def.of 32 rfl rfl) go (r := 5) (by decide) (EvKs.cons ?_)
  refine EvK.call (Def.of 31 rfl rfl) go (r := 5) (by decide) (EvKs.cons ?_)
  refine EvK.call (Def.of 33 rfl rfl) go (r := 1) (by decide) (EvKs.p (by walk_at "ev") (EvKs.nil ⟨_, _, fromz_c Dg g (by omega), fun p hp => ?r1, ?_⟩))
  case r1 => rw [List.mem_singleton.mp hp]; exact .inl (.tail _ (.tail _ (.head _)))
  rintro v σn ⟨A, pl, rfl, hpl1, rfl⟩
  have hpll : pl.length = g.length := by have := congrArg List.length hpl1; simpa using this
  refine EvKs.cons ?_
  refine EvK.tup (EvKs.p (by walk_at "ev") (EvKs.p (by walk_at "ev") (EvKs.nil ⟨Nat.le_of_ble_eq_true rfl, fun R => ?_⟩)))
  have hone : ∀ q ∈ pl, q.2.2 = 1 := fun q hq => by
    have : q.2 ∈ pl.map (·.2) := List.mem_map.mpr ⟨q, hq, rfl⟩
    rw [hpl1] at this
    exact snd_one g _ this
  refine EvKs.nil ⟨_, _, qscale_c A R pl d (by omega) hd hone, fun p hp => ?r2, ?_⟩
  case r2 =>
    rcases List.mem_cons.mp hp with rfl | hp
    · exact .inl (.tail _ (.head _))
    rcases List.mem_cons.mp hp with rfl | hp
    · exact .inl (.head _)
    · refine .inl (.tail _ (.tail _ (List.mem_append_left _ ?_)))
      rw [List.map_reverse]; exact List.mem_reverse.mpr hp
  rintro v σn ⟨B, qs, rfl, hqs, rfl⟩
  have hqe : qs.map (·.2) = List.map (fun p => rmulF p (1, d)) (List.map (fun a => (a, 1)) g) := by rw [hqs, ← hpl1, List.map_map]; rfl
  have hql : qs.length = g.length := by have := congrArg List.length hqe; simpa using this
  refine EvKs.cons ?_
  refine EvK.tup (EvKs.p (by walk_at "ev") (EvKs.p (by walk_at "ev") (EvKs.nil ⟨Nat.le_of_ble_eq_true rfl, fun W => ?_⟩)))
  refine EvKs.nil ⟨_, _, qat_c B W qs (place - 5) (by omega) (by rw [hqe, hql]; exact h1.out) (by rw [hqe, hql]; exact h2.out) (fun q hq => h3.out _ (by rw [← hqe]; exact List.mem_map.mpr ⟨q, hq, rfl⟩)) (by omega), fun p hp => ?r3, ?_⟩
  case r3 =>
    rcases List.mem_cons.mp hp with rfl | hp
    · exact .inl (.tail _ (.head _))
    rcases List.mem_cons.mp hp with rfl | hp
    · exact .inl (.head _)
    · refine .inl (.tail _ (.tail _ (List.mem_append_left _ ?_)))
      rw [List.map_reverse]; exact List.mem_reverse.mpr hp
  rintro v σn ⟨X, rfl, rfl⟩
  rw [hqe, h4.out, h5.out]
  refine EvK.tup ?_
  refine EvKs.cons ?_
  refine EvK.bin ?_
  refine EvK.call (Def.of 13 rfl rfl) go (r := 2) (by decide) (EvKs.p (by walk_at "ev") (EvKs.p (by walk_at "ev") (EvKs.nil ⟨_, _, zat_c Dg g (place - 5) (by omega), fun p hp => ?r4, ?_⟩)))
  case r4 =>
    rw [List.mem_singleton.mp hp]
    exact .inl (List.mem_append_right _ (.tail _ (List.mem_append_right _ (.tail _ (List.mem_append_right _ (.tail _ (.tail _ (.head _))))))))
  rintro v σn ⟨rfl, rfl⟩
  refine ⟨_, rfl, EvK.pure (by walk_at "ev") ⟨d, _, rfl, (fun _ _ _ _ _ h => floordiv_int (by omega) (h _ _) (Or.inl (PyProof.noPylong_small (by omega)))), ?_⟩⟩
  refine EvKs.p (by walk_at "ev") (EvKs.nil ⟨Nat.le_of_ble_eq_true rfl, fun Y => ⟨true, Cmp.eqT (x := Int.fdiv (ev g (place - 5)) d) (y := 1) (.inl (.tail _ (.head _))) (.inl (.head _)) hu, rfl⟩⟩)
end
end Mine.E
namespace Mine
theorem vals_old (p : List Int) : List.map (fun (k' : Int) => ev p k') (rangeKs 0 ((5 : Int) - 0).toNat) = vals p 5 := (thr_list p).trans (vals5 p).symm
theorem near_old (g : List Int) (place : Int) : List.map (fun (k' : Int) => ev g (place + k')) (rangeKs 0 ((5 : Int) - 0).toNat) = (List.range 5).map fun i : Nat => ev g (place + (i : Int)) := by
  rw [show rangeKs 0 ((5 : Int) - 0).toNat = [0, 1, 2, 3, 4] by decide]; rfl
end Mine
namespace Mine.E
theorem bS_ex (r0 r1 r2 r3 r4 : Int) : (List.range 5).map (bS [r0, r1, r2, r3, r4]) = [r0 - r1 + r2 - r3 + r4, -r1 + 2 * r2 - 3 * r3 + 4 * r4, r2 - 3 * r3 + 6 * r4, -r3 + 4 * r4, r4] := by
  have e0 : bS [r0, r1, r2, r3, r4] 0 = 1 * r0 + (-1 * r1 + (1 * r2 + (-1 * r3 + (1 * r4 + 0)))) := rfl
  have e1 : bS [r0, r1, r2, r3, r4] 1 = -1 * r1 + (2 * r2 + (-3 * r3 + (4 * r4 + 0))) := rfl
  have e2 : bS [r0, r1, r2, r3, r4] 2 = 1 * r2 + (-3 * r3 + (6 * r4 + 0)) := rfl
  have e3 : bS [r0, r1, r2, r3, r4] 3 = -1 * r3 + (4 * r4 + 0) := rfl
  have e4 : bS [r0, r1, r2, r3, r4] 4 = 1 * r4 + 0 := rfl
  show [bS [r0, r1, r2, r3, r4] 0, bS [r0, r1, r2, r3, r4] 1, bS [r0, r1, r2, r3, r4] 2, bS [r0, r1, r2, r3, r4] 3, bS [r0, r1, r2, r3, r4] 4] = _
  rw [e0, e1, e2, e3, e4]
  simp only [List.cons.injEq, and_true]
  refine ⟨?_, ?_, ?_, ?_, ?_⟩ <;> omega
theorem pO3 {g : List Int} (hg : g.length ≤ 5) : fdF (vals (pcomp [-1, -1] g) 5) = (List.range 5).map (bS (fdF (vals g 5))) := by
  rw [pO2 hg, vals5 g, fd5, binS_ex, bS_ex]
section
variable {k : K0} {f : Addr} {cdv : Value} {bs : Led}
/-- the law's body hands back True -/
theorem law_body {l : Addr} {ns : List Int} (go : Go k 10 bs) (hr : Has k.h₀ l (.ints ns)) (hb : ns.length < 100) : Ex (lawC k f cdv) (recAt 38).body [(Str.ofString "script", .ref l)] [] No Yes := by
  have hu : k.un < cLine := by have := go.units; omega
  show Ex (lawC k f cdv) [lawSt 0, lawSt 1, lawSt 2, lawSt 3, lawSt 4, lawSt 5, lawSt 6, lawSt 7, lawSt 8, lawSt 9, lawSt 10, lawSt 11, lawSt 12, lawSt 13, lawSt 14, lawSt 15, lawSt 16, lawSt 17, lawSt 18, lawSt 19, lawSt 20] _ _ _ _
  refine seg0 go hr hb fun P q T ns ts ρ hn hts hP hT => ?_
  refine seg3 go hn hts hP hT fun Dp Du cs ρ hc hP hp hd => ?_
  have hcl := hc.len
  have hlen : (thrF (fun j => cs.getD j 0) 5).length ≤ 5 := thr_len _
  have hz : zt (thrF (fun j => cs.getD j 0) 5) = thrF (fun j => cs.getD j 0) 5 := thr_zt _
  have hP1 : fdF (vals (thrF (fun j => cs.getD j 0) 5) 5) = dueF cs := pP1 hcl
  have h2 := pP2 hcl hc.bd
  have h3 := pP3 hcl
  rw [vals_old] at h2 h3
  have h864 : gcdL (dueF cs) ≤ 864 := due_le hcl hc.bd
  generalize thrF (fun j => cs.getD j 0) 5 = pl at hlen hz hP1 h2 h3 ⊢
  generalize dueF cs = due at hP1 h864 ⊢
  refine seg4 go hu hP hp hd ⟨hP1⟩ ⟨fun i hi => by have := h2 i hi; omega⟩ ⟨h3⟩ ?_
  clear h2 h3
  refine seg5 go hn (by omega) hP hp hd fun Dg Dh Dr mv x y z place ρ hx hy hz1 hpl s1 s2 s3 s4 s5 s6 => ?_
  have S : LS ρ Du Dg Dh Dr place (gcdL (fdF (vals (pshift pl mv) 5))) := ⟨s1, s2, s3, s4, s5, s6⟩
  clear s1 s2 s3 s4 s5 s6 hP hp hd
  have hgl : (pshift pl mv).length ≤ 5 := by rw [pshift_len]; exact hlen
  have hdeq : gcdL (fdF (vals (pshift pl mv) 5)) = gcdL due := by rw [pD1 mv hlen, hP1]
  have hD3 := pD3 mv hlen hz
  have hhb := pHb hx hy hz1
  have hH3 := pH3 hx hy hz1
  have hhl : (zt (padd [x, y, z] [])).length ≤ 3 := hh_len
  generalize zt (padd [x, y, z] []) = hh at hhb hH3 hhl ⊢
  generalize pshift pl mv = g at hgl hdeq hD3 S ⊢
  have hD2 := pD2 hgl place
  rw [near_old] at hD2
  have hrl : (fdF (vals g 5)).length = 5 := by rw [fdF_len, vals_len]
  refine seg12 go hu S (by omega) ⟨hdeq⟩ ⟨hD2⟩ ⟨hD3⟩ fun hd0 => ?_
  refine seg14 go S (by omega) hd0 ⟨pC0 hgl hd0⟩ ⟨pC1 hgl⟩ ⟨pC2 hgl⟩ ⟨pC3 hgl _⟩ fun ρ S => ?_
  refine seg16 go hu S (by omega) ⟨pM hgl⟩ fun ρ S => ?_
  refine seg17 go hu S (by omega) hrl ⟨pO1 hgl⟩ ⟨pO3 hgl⟩ fun ρ S => ?_
  refine seg19 go S (by omega) (by omega) hd0 ⟨fun x hx => by have := hhb x hx; omega⟩ ⟨gcdL_nonneg _, by omega⟩ ⟨pH1 hgl⟩ ⟨pH2 hgl hhl⟩ ⟨pH5 hd0⟩ ?_
  have hd1 : 0 ≤ gcdL (fdF (vals g 5)) := gcdL_nonneg _
  have hdp : 0 < gcdL (fdF (vals g 5)) := by omega
  have hd2 : gcdL (fdF (vals g 5)) < 20000 := by omega
  have hV := pV (d := gcdL (fdF (vals g 5))) (g := g) (x := place - 5) hdp ((dvd_row5 hgl).mp (Int.dvd_refl _) _)
  have hg0 : g ≠ [] := fun e => hd0 (by rw [e]; rfl)
  have q1 := pq1 hdp hd2 (place - 5) g
  have q2 := pq2 hdp hd2 (place - 5) g
  have hml : (List.map (fun p => rmulF p (1, gcdL (fdF (vals g 5)))) (List.map (fun a => (a, (1 : Int))) g)).length = g.length := by rw [List.length_map, List.length_map]
  rw [hml] at q1 q2
  exact seg20 go hu S (by omega) (List.length_pos_iff.mpr hg0) (by omega) ⟨hdp, hd2⟩ ⟨q1⟩ ⟨q2⟩ ⟨pq3 hdp hd2 g⟩ ⟨hV.1⟩ ⟨hV.2⟩
end
end Mine.E
namespace Mine.E
theorem call_law {w : World} {s : Shared} {l f : Addr} {vs : List Value} {ns : List Int} {mean : ExcName → Option Value} {mg mb : Str → Option Value} {Q E : Value → Shared → Prop} (T : Top vw (looseW vw []) mean mg mb s.heap) (X : R0At s.heap) (hmg : mg (Str.ofString "law") = some (.ref f))
    (hl : s.heap.IsList l vs.toArray) (hi : IntsAre vs ns) (hb : ns.length < 100) (hret : ∀ h' tk', (∀ b o, s.heap.get? b = some o → h'.get? b = some o) → Q (.bool true) { s with heap := h', toks := tk' }) :
    wpAny (model PySem.Challenge.rw_xm0082_01.row.prog w) callerA (call (.ref f) [.ref l]) Q E s := by
  have B := below_caller s.heap
  obtain ⟨ob, hg, hc, n, hd⟩ := id hl
  exact enter (r := 10) (dp := 1 + claimMargin) (un := 4) (gd := some []) (outer := []) (A₀ := callerA) (base := s.heap) (g := s.heap) (σ₀ := []) (as := [.ref l]) (hs := [(l, .ints ns)]) (V := Yes) (xs := [Str.ofString "script"]) (params := (recAt 38).params) (body := (recAt 38).body) (scope := (recAt 38).scope) (dpos := (recAt 38).pos) 38 rfl rfl (fun _ _ _ => bind1 fun _ => rfl) rfl (by decide) rfl rfl rfl rfl rfl
    (fun _ _ e => e) (Nat.le_refl _) B X T hmg (by decide) (by decide) (.cons rfl .nil) (fun p hp => by rw [List.mem_singleton.mp hp]; exact ⟨ob, ⟨hc, vs, n, hd, hi⟩, hg⟩) (fun _ h => absurd h List.not_mem_nil) .nil
    (fun k f cdv go => law_body go (go.hs _ (.head _)) hb) fun v cv σ₁ h' tk' hv hcv kp _ _ => by
      subst hv; cases hcv
      exact hret h' tk' fun b o e => kp.keep b o e fun _ h => absurd h List.not_mem_nil
end Mine.E
namespace Mine
theorem law_walk : WalkO vw [] (XL vw []) (fun _ h => R0At h) rowM.toRowW lawRec [] fun f vs => PySem.call f vs := by
  intro w s₀ s₁ mg mb G Y a o pm cd doc dV kV ho hd hcd hD hmg hg args vals as hpre hlay hrd hwl hlo
  have T := G.T
  wrow_args hpre hlay hrd hwl hlo
  rename IntsAre _ _ => hi
  rename Heap.IsList _ _ _ => hl
  rename ¬ _ < _ => hb
  refine Mine.E.call_law T Y hmg hl hi (by omega) fun h' tk' hk => ?_
  refine ⟨.inl ⟨_, .bool true, [], rfl, raisesW_false (by wrow_none_raised), ReadsW.bool _, ?_, fun _ => ⟨.nil, fun _ h => absurd h List.not_mem_nil⟩⟩, .of_keep hk, rfl, .of_eq hg⟩
  wrow_post
theorem law_holds : PySem.Challenge.rw_xm0082_01.Holds := head law_walk
end Mine
theorem PySem.Challenge.cw_xm0082_01_holds : PySem.Challenge.rw_xm0082_01.Holds :=
  Mine.law_holds
