import PyProof.Rows.All
import Wide.All
import OpenK.AllK
import Wide.FinOn
import PySem.Challenge.RW_xm0386_01
set_option Elab.async false
set_option maxRecDepth 100000
section MTop
open PySem PySem.W PyProof.Rows
namespace Mine
def pickAt {α : Type} (l : List α) (is : List Nat) : List α := is.filterMap fun i => l[i]?
def seenText : Program := { PySem.Challenge.pw_xm0386_01 with main := { PySem.Challenge.pw_xm0386_01.main with body := pickAt PySem.Challenge.pw_xm0386_01.main.body [1, 2, 3, 5, 6, 7, 8, 9, 10, 11, 12, 13, 14, 15, 17, 18, 19, 20, 21, 22, 23, 25, 27, 29, 30, 31, 32, 33, 35, 36, 37, 38] } }
theorem left_of {p q : Program} {loose : List Str} {Xt : Shared → Bool} {α : Type} {Yf : Shared → α} {Ya : World → α} {N : Nat}
    (e : opening p = plainProg p.main.scope.names) (hN : Nat.ble 600 N = true) (f : ∀ s, fenceModules? p s = some s)
    (run : ∀ (w : World) (os : OsState), (topFrom treeTable p w N ⟨boot_heap w.params, Array.mk [], boot_drawn, boot_toks, os⟩).map (fun s => (openSeen q loose (importedModules p.main.body) Xt true s, Yf s)) = some (openGood q loose, Ya w)) :
    LeftO p q loose Xt Yf Ya N := fun w => by
  obtain ⟨⟨h, gs, d, k, os⟩, e1, e2⟩ := Option.map_eq_some_iff.mp (boot_open e hN f w)
  obtain ⟨rfl, rfl, rfl, rfl⟩ : h = boot_heap w.params ∧ gs = Array.mk [] ∧ d = boot_drawn ∧ k = boot_toks := by simpa using e2
  unfold openEnds
  rw [e1]
  exact run w os
local macro_rules | `(tactic| o_head $H) => `(tactic| (
  refine holds_open (q := seenText) (loose := []) (Xt := fun s => xlAt seenText [] s && recOk (RowW.records (OpenRow.toRowW (PySem.Challenge.rw_xm0386_01.row))) s) (XP := XL seenText []) (Yf := Hook.obs $H) (Ya := Hook.val $H) (YP := Hook.says $H) (N := 2974) ?hl (Hook.of $H) (Hook.keeps $H) (fun s e => xl_of s (Bool.and_eq_true_iff.mp e).1) XL.keeps (by rfl) (by rfl) (by rfl) (fun s e => recFacts_of (Bool.and_eq_true_iff.mp e).2) (by rfl) (by first | assumption | decide +kernel) (by decide +kernel) ⟨rfl, rfl, rfl, rfl, rfl, by decide +kernel⟩ ?hw ?hc
  case hl => (
    refine left_of (by kernel_rfl) (by kernel_rfl) (by intro s; kernel_rfl) ?_
    intro w os
    unfold topFrom
    rw [PySem.W.Fast.te14082659384304107361, PySem.W.Fast.te14364793385576792824, PySem.W.Fast.te4187177175401517315, PySem.W.Fast.te5923862056798008813]
    kernel_rfl)))
set_option maxRecDepth 100000 in
set_option maxHeartbeats 8000000 in
open_top hd for PySem.Challenge.rw_xm0386_01
end Mine
end MTop
section MBase
namespace Mine
open PySem PySem.W PySem.Spec PySem.Calls PyProof.Rows

abbrev around (dp un : Nat) (gd : Option (List Code)) (env : Env) (outer : List Env) : Around := { handled := none, depth := dp, frames := some (env :: outer), guards := gd, units := un }

/-- a call of f upon vs, at the heap h, leaves what stood as it stood and hands back what Post says -/
def Says (w : World) (mean : ExcName → Option Value) (mg mb : Str → Option Value) (f : Addr) (vs : List Value) (dep un' : Nat) (h : Heap) (Post : Value → Heap → Prop) : Prop :=
  ∀ (dp un : Nat) (gd : Option (List Code)) (env : Env) (outer : List Env) (A₀ : Around) (base h₀ : Heap) (L : Addr) (m : Str → Option Value) (s : Shared) (Q E : Value → Shared → Prop),
    s.heap = h → Below A₀ base outer h₀ → Fr h₀ L s.heap m → (Mine.hd.heap_39 w.params).In h₀ → Top Mine.seenText (looseW Mine.seenText []) mean mg mb h₀ → env.frame = some L → env.scope.kind = .function → dp + dep < recursionLimit → un + un' < cLine →
    (∀ r h' tk', (∀ b o, h.get? b = some o → h'.get? b = some o) → Post r h' → Q r { s with heap := h', toks := tk' }) →
    wpAny (model PySem.Challenge.rw_xm0386_01.row.prog w) (around dp un gd env outer) (call (.ref f) vs) Q E s

section
variable {prog : Program} {w : World} {A A₀ : Around} {s : Shared} {K : Frag} {L : Addr} {h₀ base : Heap} {m mg mb : Str → Option Value} {p : Program} {loose : List Str} {mean : ExcName → Option Value}
theorem enter_pure {env : Env} {outer : List Env} {R : Result → Shared → Prop} {name qual : Str} {params : Arguments} {body : List Stmt} {scope : Scope} {dV kV doc pm cdv ct oc : Value} {an od : Option Addr} {osl : Array (Option Value)} {f : Addr} {args : Args} {binds : List (Str × Value)}
    (B : Below A₀ base outer h₀) (F : Fr h₀ L s.heap m) (X₀ : K.In h₀) (T : Top p loose mean mg mb h₀) (hA : A.frames = some (env :: outer)) (hf : env.frame = some L) (hke : env.scope.kind = .function)
    (ho : K.lookup f = some ⟨oc, od, .func (fnOf name qual params body scope dV kV doc pm an cdv ct), osl⟩) (hcd : codeIn K cdv qual = true) (hroom : A.depth < recursionLimit)
    (hbind : BindsTo s (fnOf name qual params body scope dV kV doc pm an cdv ct) args binds) (hloc : ∀ y ∈ binds, scope.names.lookup y.1 = some .local)
    (h : ∀ L' h₁, Fr s.heap L' h₁ (fun y => binds.reverse.lookup y) → News s.heap L' h₁ [] → Below A base (env :: outer) s.heap → K.In s.heap → Top p loose mean mg mb s.heap →
      wpAny (model prog w) (A.deeper (envOf qual scope L' f cdv)) (execs body (envOf qual scope L' f cdv))
        (fun fl s' => R (.ok (.ret (match fl with | .ret v => v | _ => .none))) s')
        (fun e s' => wpAny (model prog w) (A.deeper (envOf qual scope L' f cdv)) (leaving (envOf qual scope L' f cdv) e) (fun _ s'' => R (.error e) s'') (fun e' s'' => R (.error e') s'') s')
        { s with heap := h₁, toks := s.toks + binds.length })
    (hco : scope.isCoroutine = false) (hgen : scope.isGenerator = false) (hk : scope.kind = .function)
    (hcell : ∀ x ∈ scope.names, x.2 ≠ .cell) : codeAny (model prog w) A (.call (.ref f) args) R s := by
  refine codeAny_call_def (fd := fnOf name qual params body scope dV kV doc pm an cdv ct) (body := body) (binds := binds) hroom ((X₀.keeps F.keep) _ _ ho) rfl (T.nolimit.keeps F.keep) (codeRec_of (X₀.keeps F.keep) hcd) rfl hbind hcell hloc (fun h₁ hns hk₁ => ?_) hco hgen hk
  exact h _ h₁ ⟨hns, hk₁, Nat.le_refl _⟩ (fun _ hp => nomatch hp) (by
    obtain ⟨_, B', _, _⟩ := groundX (R := R) B F (News.nil (h₀ := h₀) (h := s.heap) (L := L)) hA hf hke
    exact B') (X₀.keeps F.keep) (T.keeps F.keep)
end

end Mine
end MBase
section MVal
namespace Mine

noncomputable def val (B : Int) : List Int → Int
  | [] => 0
  | x :: r => x + B * val B r
def Lim (B : Int) (l : List Int) : Prop := ∀ x ∈ l, 0 ≤ x ∧ x < B
/-- canonical: limbs in bounds, and the value says that the top is not nought -/
def Can (B : Int) (l : List Int) : Prop := Lim B l ∧ (l ≠ [] → B ^ (l.length - 1) ≤ val B l)

theorem ipow_pos {B : Int} (hB : 2 ≤ B) : ∀ n : Nat, 0 < B ^ n
  | 0 => by simp
  | n + 1 => by
    rw [Int.pow_succ]
    exact Int.mul_pos (ipow_pos hB n) (by omega)
theorem val_nil {B : Int} : val B [] = 0 := rfl
theorem val_cons {B x : Int} {r : List Int} : val B (x :: r) = x + B * val B r := rfl
theorem val_append {B : Int} : ∀ (l m : List Int), val B (l ++ m) = val B l + B ^ l.length * val B m
  | [], m => by simp [val]
  | x :: r, m => by
    rw [List.cons_append, val_cons, val_cons, val_append r m, List.length_cons, Int.pow_succ, Int.mul_add, ← Int.mul_assoc, Int.mul_comm B (B ^ r.length)]
    omega
theorem val_snoc {B x : Int} (l : List Int) : val B (l ++ [x]) = val B l + B ^ l.length * x := by
  rw [val_append, val_cons, val_nil, Int.mul_zero, Int.add_zero]
theorem Lim.nil {B : Int} : Lim B [] := fun _ h => nomatch h
theorem Lim.append {B : Int} {l m : List Int} (h : Lim B l) (k : Lim B m) : Lim B (l ++ m) := fun x hx => (List.mem_append.mp hx).elim (h x) (k x)
theorem Lim.one {B x : Int} (h0 : 0 ≤ x) (h1 : x < B) : Lim B [x] := fun y hy => by rw [List.mem_singleton.mp hy]; exact ⟨h0, h1⟩
theorem Lim.snoc {B x : Int} {l : List Int} (h : Lim B l) (h0 : 0 ≤ x) (h1 : x < B) : Lim B (l ++ [x]) := h.append (.one h0 h1)
theorem Lim.tail {B x : Int} {r : List Int} (h : Lim B (x :: r)) : Lim B r := fun y hy => h y (.tail _ hy)
theorem Lim.take {B : Int} {l : List Int} (h : Lim B l) (n : Nat) : Lim B (l.take n) := fun y hy => h y (List.mem_of_mem_take hy)
theorem Lim.getD {B : Int} {l : List Int} (h : Lim B l) (hB : 0 < B) (i : Nat) : 0 ≤ l.getD i 0 ∧ l.getD i 0 < B := by
  rw [List.getD_eq_getElem?_getD]
  cases e : l[i]? with
  | none => exact ⟨by simp, by simpa using hB⟩
  | some x => simpa using h x (List.mem_of_getElem? e)
theorem val_nonneg {B : Int} (hB : 2 ≤ B) : ∀ {l : List Int}, Lim B l → 0 ≤ val B l
  | [], _ => by simp [val]
  | x :: r, h => by
    have h1 := (h x (.head _)).1
    have h2 := Int.mul_nonneg (show (0 : Int) ≤ B by omega) (val_nonneg hB h.tail)
    rw [val_cons]; omega
theorem val_lt {B : Int} (hB : 2 ≤ B) : ∀ {l : List Int}, Lim B l → val B l < B ^ l.length
  | [], _ => by simp [val]
  | x :: r, h => by
    have h1 := (h x (.head _)).2
    have h2 := val_lt hB h.tail
    have h3 : B * (val B r + 1) ≤ B * B ^ r.length := Int.mul_le_mul_of_nonneg_left (by omega) (by omega)
    rw [val_cons, List.length_cons, Int.pow_succ, Int.mul_comm (B ^ r.length) B]
    rw [Int.mul_add, Int.mul_one] at h3
    omega
theorem getD_lt {l : List Int} {k : Nat} (h : k < l.length) : l.take (k + 1) = l.take k ++ [l.getD k 0] := by
  rw [List.take_add_one, List.getD_eq_getElem?_getD, List.getElem?_eq_getElem h]
  rfl
theorem val_take {B : Int} {l : List Int} {k : Nat} (h : k < l.length) : val B (l.take (k + 1)) = val B (l.take k) + B ^ k * l.getD k 0 := by
  rw [getD_lt h, val_snoc, List.length_take, Nat.min_eq_left (Nat.le_of_lt h)]
theorem take_all {l : List Int} {k : Nat} (h : l.length ≤ k) : l.take k = l := List.take_of_length_le h
theorem Can.nil {B : Int} : Can B [] := ⟨.nil, fun h => absurd rfl h⟩
theorem Can.lim {B : Int} {l : List Int} (h : Can B l) : Lim B l := h.1
theorem Can.pos {B : Int} (hB : 2 ≤ B) {l : List Int} (h : Can B l) (hn : l ≠ []) : 0 < val B l := Int.lt_of_lt_of_le (ipow_pos hB _) (h.2 hn)
theorem Can.nil_of {B : Int} (hB : 2 ≤ B) {l : List Int} (h : Can B l) (e : val B l = 0) : l = [] := by
  cases l with
  | nil => rfl
  | cons x r => have := h.pos hB (by simp); omega
theorem ipow_le {B : Int} (hB : 2 ≤ B) {m n : Nat} (h : m ≤ n) : B ^ m ≤ B ^ n := by
  obtain ⟨k, rfl⟩ := Nat.le.dest h
  rw [Int.pow_add]
  have h1 := ipow_pos hB m
  have h2 : 1 ≤ B ^ k := ipow_pos hB k
  have h3 := Int.mul_le_mul_of_nonneg_left h2 (Int.le_of_lt h1)
  omega
/-- the longer of two canonical lists is the greater -/
theorem Can.lt_of_len {B : Int} (hB : 2 ≤ B) {l m : List Int} (hl : Lim B l) (hm : Can B m) (h : l.length < m.length) : val B l < val B m := by
  have h1 := val_lt hB hl
  have h2 := hm.2 (by intro e; rw [e] at h; simp at h)
  have h3 := ipow_le hB (show l.length ≤ m.length - 1 by omega)
  omega
theorem Can.len_le {B : Int} (hB : 2 ≤ B) {l : List Int} (h : Can B l) {k : Nat} (hv : val B l < B ^ k) : l.length ≤ k := by
  rcases Nat.lt_or_ge k l.length with q | q
  · have h1 := h.2 (by intro e; rw [e] at q; simp at q)
    have h2 := ipow_le hB (show k ≤ l.length - 1 by omega)
    omega
  · exact q
theorem pow8_le {B : Int} (hB : 8 ≤ B) : ∀ k : Nat, (8 : Int) ^ k ≤ B ^ k
  | 0 => by simp
  | k + 1 => by
    rw [Int.pow_succ, Int.pow_succ]
    have h1 := pow8_le hB k
    have h2 := ipow_pos (show (2 : Int) ≤ 8 by decide) k
    exact Int.mul_le_mul h1 hB (by decide) (by omega)
theorem Can.len_le8 {B : Int} (hB : 8 ≤ B) {l : List Int} (h : Can B l) {k : Nat} (hv : val B l < 8 ^ k) : l.length ≤ k :=
  h.len_le (by omega) (Int.lt_of_lt_of_le hv (pow8_le hB k))
/-- uniqueness of limbs of equal length -/
theorem Lim.inj {B : Int} (hB : 2 ≤ B) : ∀ {l m : List Int}, Lim B l → Lim B m → l.length = m.length → val B l = val B m → l = m
  | [], [], _, _, _, _ => rfl
  | [], _ :: _, _, _, h, _ => by simp at h
  | _ :: _, [], _, _, h, _ => by simp at h
  | x :: r, y :: q, hl, hm, h, e => by
    rw [val_cons, val_cons] at e
    have h1 := hl x (.head _)
    have h2 := hm y (.head _)
    have ex : x = y := by
      have e1 : (x + B * val B r) % B = x := by rw [Int.add_mul_emod_self_left]; exact Int.emod_eq_of_lt h1.1 h1.2
      have e2 : (y + B * val B q) % B = y := by rw [Int.add_mul_emod_self_left]; exact Int.emod_eq_of_lt h2.1 h2.2
      rw [← e1, ← e2, e]
    subst ex
    have e3 : B * val B r = B * val B q := by omega
    have e4 : val B r = val B q := Int.eq_of_mul_eq_mul_left (by omega) e3
    rw [Lim.inj hB hl.tail hm.tail (by simpa using h) e4]
theorem Can.inj {B : Int} (hB : 2 ≤ B) {l m : List Int} (hl : Can B l) (hm : Can B m) (e : val B l = val B m) : l = m := by
  refine hl.1.inj hB hm.1 ?_ e
  rcases Nat.lt_trichotomy l.length m.length with h | h | h
  · have := Can.lt_of_len hB hl.1 hm h; omega
  · exact h
  · have := Can.lt_of_len hB hm.1 hl h; omega
/-- equal ends: the lower tops decide -/
theorem Can.top {B : Int} (hB : 2 ≤ B) {l : List Int} {x : Int} (h : Lim B (l ++ [x])) (hx : x ≠ 0) : Can B (l ++ [x]) := by
  refine ⟨h, fun _ => ?_⟩
  have h1 : 0 ≤ x := (h x (by simp)).1
  have h2 := val_nonneg hB (fun y hy => h y (List.mem_append.mpr (.inl hy)) : Lim B l)
  have h3 := Int.mul_le_mul_of_nonneg_left (show 1 ≤ x by omega) (Int.le_of_lt (ipow_pos hB l.length))
  rw [val_snoc, List.length_append, List.length_singleton, Nat.add_sub_cancel]
  omega
theorem getD_out {l : List Int} {k : Nat} (h : l.length ≤ k) : l.getD k 0 = 0 := by
  rw [List.getD_eq_getElem?_getD, List.getElem?_eq_none h]; rfl
theorem val_take' {B : Int} {l : List Int} (k : Nat) : val B (l.take (k + 1)) = val B (l.take k) + B ^ k * l.getD k 0 := by
  rcases Nat.lt_or_ge k l.length with h | h
  · exact val_take h
  · rw [take_all h, take_all (Nat.le_succ_of_le h), getD_out h, Int.mul_zero, Int.add_zero]
theorem two_pow_ge {W : Int} (h : 3 ≤ W) : (8 : Int) ≤ 2 ^ W.toNat := by
  have := ipow_le (show (2 : Int) ≤ 2 by decide) (show 3 ≤ W.toNat by omega)
  exact this
theorem two_pow_le {W : Int} (h : W ≤ 8) : (2 : Int) ^ W.toNat ≤ 256 := by
  have := ipow_le (show (2 : Int) ≤ 2 by decide) (show W.toNat ≤ 8 by omega)
  exact this
theorem mask_is (x W : Int) : PySem.Builtin.bitAnd x (1 * 2 ^ W.toNat - 1) = x % 2 ^ W.toNat := by
  rw [Int.one_mul]; exact PySem.W.kbt_mask x _
theorem shr_is (x : Int) (W : Int) : x.fdiv (2 ^ W.toNat) = x / 2 ^ W.toNat := Int.fdiv_eq_ediv_of_nonneg _ (Int.le_of_lt (ipow_pos (by decide) _))
/-- one limb more, and what is carried on -/
theorem split_is {B v c : Int} {fs : List Int} (h : val B fs + B ^ fs.length * c = v) : val B (fs ++ [c % B]) + B ^ (fs ++ [c % B]).length * (c / B) = v := by
  rw [val_snoc, List.length_append, List.length_singleton, Int.pow_succ, Int.mul_assoc, Int.add_assoc, ← Int.mul_add, Int.emod_add_mul_ediv]
  exact h
end Mine
end MVal
section MCore
namespace Mine
open PySem PySem.W PySem.Spec PySem.Calls PyProof.Rows

/-- a mark at which the walk rests -/
def Rest {α : Type} (t : Sem α) : Sem α := t
theorem Rest.mk {α : Type} {M : Model} {A : Around} {t : Sem α} {Q : α → Shared → Prop} {E : Value → Shared → Prop} {s : Shared} (h : wpAny M A (Rest t) Q E s) : wpAny M A t Q E s := h
theorem Rest.out {α : Type} {M : Model} {A : Around} {t : Sem α} {Q : α → Shared → Prop} {E : Value → Shared → Prop} {s : Shared} (h : wpAny M A t Q E s) : wpAny M A (Rest t) Q E s := h

def PInt (P : Int → Prop) (r : Value) (_ : Heap) : Prop := ∃ k t, r = .int k t ∧ P k
def PList (h : Heap) (P : List Int → Prop) (r : Value) (h' : Heap) : Prop := ∃ l vs c ns, r = .ref l ∧ h'.get? l = some (listOf (List.toArray vs) c) ∧ h.get? l = none ∧ IntsAre vs ns ∧ P ns
abbrev tupOf (its : Array Value) (c : Nat) : Obj := { cls := .type "tuple", data := .seq its c }

section
variable {w : World} {A₀ : Around} {s : Shared} {L : Addr} {h₀ base : Heap} {m mg mb : Str → Option Value} {mean : ExcName → Option Value} {news : List (Addr × Obj)}
  {f : Addr} {vs : List Value} {dep un' : Nat} {dp un : Nat} {gd : Option (List Code)} {env : Env} {outer : List Env} {Q E : Value → Shared → Prop}

theorem Says.use {Post : Value → Heap → Prop} (C : Says w mean mg mb f vs dep un' s.heap Post) (B : Below A₀ base outer h₀) (F : Fr h₀ L s.heap m) (N : News h₀ L s.heap news) (X : (hd.heap_39 w.params).In h₀)
    (T : Top seenText (looseW seenText []) mean mg mb h₀) (hf : env.frame = some L) (hk : env.scope.kind = .function) (hd : dp + dep < recursionLimit) (hu : un + un' < cLine)
    (ret : ∀ r h' tk', Fr h₀ L h' m → News h₀ L h' news → (∀ b o, s.heap.get? b = some o → h'.get? b = some o) → Post r h' → Q r { s with heap := h', toks := tk' }) :
    wpAny (model PySem.Challenge.rw_xm0386_01.row.prog w) (around dp un gd env outer) (call (.ref f) vs) Q E s :=
  C dp un gd env outer A₀ base h₀ L m s Q E rfl B F X T hf hk hd hu fun r h' tk' k p => ret r h' tk' (F.keeps k) (N.grown k) k p

theorem Says.useInt {P : Int → Prop} (C : Says w mean mg mb f vs dep un' s.heap (PInt P)) (B : Below A₀ base outer h₀) (F : Fr h₀ L s.heap m) (N : News h₀ L s.heap news) (X : (hd.heap_39 w.params).In h₀)
    (T : Top seenText (looseW seenText []) mean mg mb h₀) (hf : env.frame = some L) (hk : env.scope.kind = .function) (hd : dp + dep < recursionLimit) (hu : un + un' < cLine)
    (ret : ∀ k t h' tk', Fr h₀ L h' m → News h₀ L h' news → P k → Q (.int k t) { s with heap := h', toks := tk' }) :
    wpAny (model PySem.Challenge.rw_xm0386_01.row.prog w) (around dp un gd env outer) (call (.ref f) vs) Q E s :=
  C.use B F N X T hf hk hd hu fun r h' tk' F' N' _ p => by
    obtain ⟨k, t, rfl, hp⟩ := p
    exact ret k t h' tk' F' N' hp

theorem news_fresh {h h' : Heap} {l : Addr} {o : Obj} (F : Fr h₀ L h m) (N : News h₀ L h news) (k : ∀ b o, h.get? b = some o → h'.get? b = some o) (hl : h'.get? l = some o) (hn : h.get? l = none) :
    News h₀ L h' ((l, o) :: news) ∧ ∀ p ∈ news, p.1 ≠ l := by
  refine ⟨fun p hp => ?_, fun p hp e => ?_⟩
  · rcases List.mem_cons.mp hp with rfl | hp
    · refine ⟨hl, fun e => ?_, ?_⟩
      · obtain ⟨oL, _, _, hL, _⟩ := F.ns
        have e : l = L := e
        rw [← e, hn] at hL; cases hL
      · cases q : h₀.get? l with
        | none => rfl
        | some o' => have := F.keep _ _ q; rw [hn] at this; cases this
    · exact (N.grown k) p hp
  · have := (N p hp).1
    rw [e, hn] at this; cases this

theorem Says.useList {P : List Int → Prop} (C : Says w mean mg mb f vs dep un' s.heap (PList s.heap P)) (B : Below A₀ base outer h₀) (F : Fr h₀ L s.heap m) (N : News h₀ L s.heap news) (X : (hd.heap_39 w.params).In h₀)
    (T : Top seenText (looseW seenText []) mean mg mb h₀) (hf : env.frame = some L) (hk : env.scope.kind = .function) (hd : dp + dep < recursionLimit) (hu : un + un' < cLine)
    (ret : ∀ l us c ns h' tk', Fr h₀ L h' m → News h₀ L h' ((l, listOf (List.toArray us) c) :: news) → (∀ p ∈ news, p.1 ≠ l) → IntsAre us ns → P ns → Q (.ref l) { s with heap := h', toks := tk' }) :
    wpAny (model PySem.Challenge.rw_xm0386_01.row.prog w) (around dp un gd env outer) (call (.ref f) vs) Q E s :=
  C.use B F N X T hf hk hd hu fun r h' tk' F' N' k p => by
    obtain ⟨l, us, c, ns, rfl, hl, hn, hi, hp⟩ := p
    obtain ⟨N'', hne⟩ := news_fresh F N k hl hn
    exact ret l us c ns h' tk' F' N'' hne hi hp

end
theorem fits_ints {vs : List Value} {ns : List Int} (hi : IntsAre vs ns) (h : (ns.length : Int) ≤ 1000000) : vs.toArray.size ≤ sizeLine := by
  have := hi.length
  rw [List.size_toArray, sizeLine_eq]
  omega
theorem ints_concat {vs : List Value} {ns : List Int} {n : Int} {t : Tok} (hi : IntsAre vs ns) : IntsAre (vs.toArray.toList.concat (.int n t)) (ns ++ [n]) := by
  rw [List.concat_eq_append]
  exact IntsAre.append hi (.cons _ _ .nil)
theorem list_end {h h' : Heap} {L' l : Addr} {news : List (Addr × Obj)} {vs : List Value} {c : Nat} {ns : List Int} {P : List Int → Prop} (N : News h L' h' news)
    (hm : (l, listOf (List.toArray vs) c) ∈ news) (hi : IntsAre vs ns) (hp : P ns) : PList h P (.ref l) h' := ⟨l, vs, c, ns, rfl, (N _ hm).1, (N _ hm).2.2, hi, hp⟩

def PTup (h : Heap) (b : Bool) (l : Addr) (r : Value) (h' : Heap) : Prop := ∃ T c, r = .ref T ∧ h'.get? T = some (tupOf #[.bool b, .ref l] c) ∧ h.get? T = none
def PPair (h : Heap) (P : Bool → List Int → Prop) (r : Value) (h' : Heap) : Prop := ∃ T l b vs c c' ns, r = .ref T ∧ h'.get? T = some (tupOf #[.bool b, .ref l] c) ∧ h.get? T = none ∧ h'.get? l = some (listOf (List.toArray vs) c') ∧ h.get? l = none ∧ IntsAre vs ns ∧ P b ns
section
variable {w : World} {A₀ : Around} {s : Shared} {L : Addr} {h₀ base : Heap} {m mg mb : Str → Option Value} {mean : ExcName → Option Value} {news : List (Addr × Obj)}
  {f : Addr} {vs : List Value} {dep un' : Nat} {dp un : Nat} {gd : Option (List Code)} {env : Env} {outer : List Env} {Q E : Value → Shared → Prop}
theorem Says.useTup {b : Bool} {l : Addr} (C : Says w mean mg mb f vs dep un' s.heap (PTup s.heap b l)) (B : Below A₀ base outer h₀) (F : Fr h₀ L s.heap m) (N : News h₀ L s.heap news) (X : (hd.heap_39 w.params).In h₀)
    (T : Top seenText (looseW seenText []) mean mg mb h₀) (hf : env.frame = some L) (hk : env.scope.kind = .function) (hd : dp + dep < recursionLimit) (hu : un + un' < cLine)
    (ret : ∀ T c h' tk', Fr h₀ L h' m → News h₀ L h' ((T, tupOf #[.bool b, .ref l] c) :: news) → (∀ p ∈ news, p.1 ≠ T) → Q (.ref T) { s with heap := h', toks := tk' }) :
    wpAny (model PySem.Challenge.rw_xm0386_01.row.prog w) (around dp un gd env outer) (call (.ref f) vs) Q E s :=
  C.use B F N X T hf hk hd hu fun r h' tk' F' N' k p => by
    obtain ⟨T, c, rfl, hl, hn⟩ := p
    obtain ⟨N'', hne⟩ := news_fresh F N k hl hn
    exact ret T c h' tk' F' N'' hne
theorem Says.usePair {P : Bool → List Int → Prop} (C : Says w mean mg mb f vs dep un' s.heap (PPair s.heap P)) (B : Below A₀ base outer h₀) (F : Fr h₀ L s.heap m) (N : News h₀ L s.heap news) (X : (hd.heap_39 w.params).In h₀)
    (T : Top seenText (looseW seenText []) mean mg mb h₀) (hf : env.frame = some L) (hk : env.scope.kind = .function) (hd : dp + dep < recursionLimit) (hu : un + un' < cLine)
    (ret : ∀ T l b us c c' ns h' tk', Fr h₀ L h' m → News h₀ L h' ((T, tupOf #[.bool b, .ref l] c) :: (l, listOf (List.toArray us) c') :: news) → (∀ p ∈ news, p.1 ≠ T) → (∀ p ∈ news, p.1 ≠ l) → IntsAre us ns → P b ns → Q (.ref T) { s with heap := h', toks := tk' }) :
    wpAny (model PySem.Challenge.rw_xm0386_01.row.prog w) (around dp un gd env outer) (call (.ref f) vs) Q E s :=
  C.use B F N X T hf hk hd hu fun r h' tk' F' N' k p => by
    obtain ⟨T, l, b, us, c, c', ns, rfl, hl, hn, hl', hn', hi, hp⟩ := p
    obtain ⟨N'', hne⟩ := news_fresh F N k hl hn
    obtain ⟨N3, hne'⟩ := news_fresh F N k hl' hn'
    refine ret T l b us c c' ns h' tk' F' (fun p hp => ?_) hne hne' hi hp
    rcases List.mem_cons.mp hp with rfl | hp
    · exact N'' _ (.head _)
    · exact N3 _ hp
end
theorem tup_end {h h' : Heap} {L' T l : Addr} {b : Bool} {c : Nat} {news : List (Addr × Obj)} (N : News h L' h' news) (hm : (T, tupOf #[.bool b, .ref l] c) ∈ news) : PTup h b l (.ref T) h' := ⟨T, c, rfl, (N _ hm).1, (N _ hm).2.2⟩
theorem pair_end {h h' : Heap} {L' T l : Addr} {b : Bool} {c c' : Nat} {vs : List Value} {ns : List Int} {P : Bool → List Int → Prop} {news : List (Addr × Obj)} (N : News h L' h' news) (hm : (T, tupOf #[.bool b, .ref l] c) ∈ news)
    (hm' : (l, listOf (List.toArray vs) c') ∈ news) (hi : IntsAre vs ns) (hp : P b ns) : PPair h P (.ref T) h' := ⟨T, l, b, vs, c, c', ns, rfl, (N _ hm).1, (N _ hm).2.2, (N _ hm').1, (N _ hm').2.2, hi, hp⟩
end Mine
end MCore
section MEnum
namespace Mine
open PySem PySem.W PySem.Spec PySem.Calls PyProof.Rows PyProof.V

section
variable {prog : Program} {w : World} {A : Around} {E : Value → Shared → Prop} {s : Shared} {env : Env} {h₀ : Heap} {body : List Stmt} {Q : Flow → Shared → Prop}
theorem iter_enumN {elts : List Expr} {k : Nat} {pos : Pos} {l : Addr} {vs : List Value} {ns : List Int} {m₀ : Str → Option Value} {news : List (Addr × Obj)} (J : Nat → (Str → Option Value) → List (Addr × Obj) → Prop)
    (hh : A.handled = none) (hl : h₀.IsList l vs.toArray) (hi : IntsAre vs ns) (F : Fr h₀ env.locals s.heap m₀) (N : News h₀ env.locals s.heap news) (hj : J 0 m₀ news)
    (turn : ∀ i n t u T m₁ news₁ h tk own, ns[i]? = some n → news₁.map (·.1) = news.map (·.1) → OwnOff own (news.map (·.1)) → J i m₁ news₁ → IsTup h T #[.int (i : Nat) t, .int n u] → Fr h₀ env.locals h m₁ → News h₀ env.locals h (news₁ ++ own) →
      wpAny (model prog w) A (assign (.Tuple elts k pos) env (.ref T)) (fun _ s₂ => wpAny (model prog w) A (execs body env) (InvPostN h₀ env.locals (J (i + 1)) own (news.map (·.1)) { s with heap := h, toks := tk } Q) E s₂) E { s with heap := h, toks := tk })
    (done : ∀ m₁ news₁ h tk, J ns.length m₁ news₁ → Fr h₀ env.locals h m₁ → News h₀ env.locals h news₁ → Q .next { s with heap := h, toks := tk }) :
    wpAny (model prog w) A (call (.type "enumerate") [.ref l]) (fun xv s₁ => wpAny (model prog w) A (pyIter xv) (fun it s₂ => TurnsAt prog w A h₀ env (.Tuple elts k pos) body Q E it s₂) E s₁) E s := by
  have hls : s.heap.IsList l vs.toArray := hl.at fun o e => F.keep l o e
  obtain ⟨ol, hol, _⟩ := id hl
  have hlt0 : l < h₀.objs.size := Heap.lt_size hol
  have hLs : env.locals < s.heap.objs.size := F.ns.lt
  have hlt : l < s.heap.objs.size := Nat.lt_trans (Nat.lt_of_lt_of_le hlt0 F.above) hLs
  have hlen : vs.toArray.size = ns.length := by simp [hi.length]
  refine call_enumerate_list hls fun h' hE hI hsz hk => ?_
  refine wpAny_pyIter_enum hE ?_
  let J' : Nat → (Str → Option Value) → List (Addr × Obj) → Prop := fun i m₁ news₁ => news₁.map (·.1) = news.map (·.1) ∧ J i m₁ news₁
  have W : KTurns prog w A (.Tuple elts k pos) (s.heap.objs.size + 1) [s.heap.objs.size + 1, s.heap.objs.size, l] [s.heap.objs.size + 1, s.heap.objs.size] vs.toArray.size _ _ _ :=
    KTurns.ofWalksU (WalksT.enumerate hh (s.heap.objs.size + 1) s.heap.objs.size l (Nat.succ_ne_self _) (ktu_ne 1 hlt) (Nat.ne_of_lt hlt) vs.toArray).toU
  refine ⟨_, _, _, _, _, _, _, m₀, news, J', rfl, W, ?_, ?_, ?_, ⟨⟨_, hE⟩, hI, hls.at fun o e => hk l o e⟩, F.keeps hk, N.grown hk, ⟨rfl, hj⟩, ?_, ?_⟩
  · intro hm
    have hm' : env.locals = s.heap.objs.size + 1 ∨ env.locals = s.heap.objs.size ∨ env.locals = l := by simpa using hm
    rcases hm' with q | q | q
    · exact absurd q (Nat.ne_of_lt (Nat.lt_succ_of_lt hLs))
    · exact absurd q (Nat.ne_of_lt hLs)
    · exact absurd q.symm (Nat.ne_of_lt (Nat.lt_of_lt_of_le hlt0 F.above))
  · intro b hb
    have hb' : b = s.heap.objs.size + 1 ∨ b = s.heap.objs.size := by simpa using hb
    rcases hb' with rfl | rfl
    · exact ktu_new F (Nat.le_add_right _ _)
    · exact ktu_new F (Nat.le_refl _)
  · intro p hp hb
    have hb' : p.1 = s.heap.objs.size + 1 ∨ p.1 = s.heap.objs.size := by simpa using hb
    have h1 := Heap.lt_size (N p hp).1
    exact hb'.elim (fun q => absurd q (Nat.ne_of_lt (Nat.lt_succ_of_lt h1))) fun q => absurd q (Nat.ne_of_lt h1)
  · rintro i v m₁ news₁ h₁ tk₁ own hin ⟨T, vals, rfl, ⟨t, x, hx, rfl⟩, hT⟩ ⟨hadr, hJ⟩ hoff hown _ _ _ F₁ N₁
    have hsep : OwnOff own (news.map (·.1)) := by
      intro p hp b hb e
      obtain ⟨q, hq, rfl⟩ := List.mem_map.mp hb
      have hq1 := Heap.lt_size (N q hq).1
      have ho := hown p hp
      have ho' : p.1 = s.heap.objs.size + 1 ∨ p.1 = s.heap.objs.size ∨ p.1 = l := by simpa using ho
      rcases ho' with z | z | z
      · exact absurd (e.symm.trans z) (Nat.ne_of_lt (Nat.lt_succ_of_lt hq1))
      · exact absurd (e.symm.trans z) (Nat.ne_of_lt hq1)
      · have h3 := (N q hq).2.2
        rw [← e, z, hol] at h3
        cases h3
    have hlt' : i < ns.length := by omega
    obtain ⟨u, hx'⟩ := hi.get i ns[i] (by simp [hlt'])
    have hv : x = .int ns[i] u := by
      have hP' : vs[i]? = some x := by simpa using hx
      rw [hx'] at hP'; exact (Option.some.inj hP').symm
    subst hv
    have N₂ : News h₀ env.locals h₁ (news₁ ++ own) := fun p hp => N₁ p ((List.mem_append.mp hp).elim (fun h => List.mem_append.mpr (.inr h)) fun h => List.mem_append.mpr (.inl h))
    refine wpAny_mono (turn i ns[i] t u T m₁ news₁ h₁ tk₁ own (by simp [hlt']) hadr hsep hJ hT F₁ N₂) (fun _ s₂ h₂ => wpAny_mono h₂ (fun f s₃ p => ?_) fun _ _ e => e) fun _ _ e => e
    have fin : InvEndN h₀ env.locals (J (i + 1)) own (news.map (·.1)) { s with heap := h₁, toks := tk₁ } s₃ → LoopStepU h₀ env.locals [s.heap.objs.size + 1, s.heap.objs.size] own (J' (i + 1)) { s with heap := h₁, toks := tk₁ } .next s₃ := by
      rintro ⟨h', tk, m', news', nx, e, F', N', hn, ho, ha, hm⟩
      refine ⟨rfl, h', tk, m', nx, e, F', fun p hp => N' p ((List.mem_append.mp hp).elim (ho p) (hn p)), fun p hp hq => ?_, ha, hm⟩
      have h1 : p.1 ∈ nx.map (·.1) := List.mem_map.mpr ⟨p, hp, rfl⟩
      rw [ha, ← hadr] at h1
      obtain ⟨q, hq1, hq2⟩ := List.mem_map.mp h1
      exact hoff q hq1 (by rw [hq2]; exact hq)
    cases f with
    | ret v => exact .ret p
    | brk => exact .brk p
    | next => exact .next (fin p)
    | cont => exact .cont (fin p)
  · rintro h' tk m' news' F' N' _ ⟨_, hJ⟩
    rw [hlen] at hJ
    exact done m' news' h' tk hJ F' N'

/-- a loop by enumerate over a list of ints, by what holds of it -/
theorem kst_enum {σ : Type} {elts : List Expr} {k : Nat} {pos : Pos} {x : Str} {l : Addr} {vs : List Value} {ns : List Int} {m₀ : Str → Option Value} (Led : σ → List (Addr × Obj)) (ps : σ → List (Str × Value)) (Facts : σ → Prop) (stored : List Str) (P : List Int → σ → Prop) (c₀ : σ) (hx : stored.contains x = true)
    (hh : A.handled = none) (hl : h₀.IsList l vs.toArray) (hi : IntsAre vs ns) (F : Fr h₀ env.locals s.heap m₀) (N : News h₀ env.locals s.heap (Led c₀)) (hf : Facts c₀) (hk : ∀ p ∈ ps c₀, m₀ p.1 = some p.2) (hp : P [] c₀)
    (turn : ∀ (c : σ) pre post n t u T (v : Str → Option Value) h tk own, ns = pre ++ n :: post → OwnOff own ((Led c₀).map (·.1)) → Facts c → P pre c → IsTup h T #[.int (pre.length : Nat) t, .int n u] →
      Fr h₀ env.locals h (kstB (fun z => if stored.contains z then v z else m₀ z) (ps c)) → News h₀ env.locals h (Led c ++ own) →
      wpAny (model prog w) A (assign (.Tuple elts k pos) env (.ref T)) (fun _ s₂ => wpAny (model prog w) A (execs body env) (InvPostN h₀ env.locals (KstS Led ps Facts x stored m₀ P (pre ++ [n])) own ((Led c₀).map (·.1)) { s with heap := h, toks := tk } Q) E s₂) E { s with heap := h, toks := tk })
    (done : ∀ (c : σ) (v : Str → Option Value) h tk, Facts c → P ns c → Fr h₀ env.locals h (kstB (fun z => if stored.contains z then v z else m₀ z) (ps c)) → News h₀ env.locals h (Led c) → Q .next { s with heap := h, toks := tk }) :
    wpAny (model prog w) A (call (.type "enumerate") [.ref l]) (fun xv s₁ => wpAny (model prog w) A (pyIter xv) (fun it s₂ => TurnsAt prog w A h₀ env (.Tuple elts k pos) body Q E it s₂) E s₁) E s := by
  have noX : ∀ {m : Str → Option Value} {c : σ}, (∀ z, z ≠ x → (∀ p ∈ ps c, z ≠ p.1) → stored.contains z = false → m z = m₀ z) → ∀ z, (∀ p ∈ ps c, z ≠ p.1) → stored.contains z = false → m z = m₀ z := by
    intro m c h z h1 h2
    refine h z (fun e => ?_) h1 h2
    rw [e, hx] at h2
    cases h2
  refine iter_enumN (fun i m nx => KstS Led ps Facts x stored m₀ P (ns.take i) m nx) hh hl hi F N ⟨c₀, rfl, hf, hk, fun _ _ _ _ => rfl, by simpa using hp⟩ ?_ ?_
  · rintro i n t u T m₁ nx h tk own hn _ hoff ⟨c, rfl, hf', h1, h2, hp'⟩ hT F₁ N₁
    have hs : ns.take (i + 1) = ns.take i ++ [n] := by simp [List.take_add_one, hn]
    have hlt : i < ns.length := by
      rcases Nat.lt_or_ge i ns.length with q | q
      · exact q
      · rw [List.getElem?_eq_none q] at hn; cases hn
    have hlen : (ns.take i).length = i := by rw [List.length_take]; omega
    have e : ns = ns.take i ++ n :: ns.drop (i + 1) := by
      have ht := List.take_append_drop (i + 1) ns
      rw [hs, List.append_assoc] at ht
      exact ht.symm
    rw [hs]
    exact turn c _ _ n t u T m₁ h tk own e hoff hf' hp' (by rw [hlen]; exact hT) (ksw_fr h1 (noX h2) F₁) N₁
  · rintro m₁ nx h tk ⟨c, rfl, hf', h1, h2, hp'⟩ F₁ N₁
    rw [List.take_length] at hp'
    exact done c m₁ h tk hf' hp' (ksw_fr h1 (noX h2) F₁) N₁
end
end Mine
end MEnum
section MCell
namespace Mine
open PySem PySem.W PySem.Spec PySem.Calls PyProof.Rows
section
variable {prog : Program} {w : World} {A A₀ : Around} {s : Shared} {K : Frag} {L : Addr} {h₀ base : Heap} {m mg mb : Str → Option Value} {p : Program} {loose : List Str} {mean : ExcName → Option Value}
theorem enter_cells {env : Env} {outer : List Env} {R : Result → Shared → Prop} {name qual : Str} {params : Arguments} {body : List Stmt} {scope : Scope} {dV kV doc pm cdv ct oc : Value} {an od : Option Addr} {osl : Array (Option Value)} {f : Addr} {args : Args} {binds : List (Str × Value)}
    (B : Below A₀ base outer h₀) (F : Fr h₀ L s.heap m) (X₀ : K.In h₀) (T : Top p loose mean mg mb h₀) (hA : A.frames = some (env :: outer)) (hf : env.frame = some L) (hke : env.scope.kind = .function)
    (ho : K.lookup f = some ⟨oc, od, .func (fnOf name qual params body scope dV kV doc pm an cdv ct), osl⟩) (hcd : codeIn K cdv qual = true) (hroom : A.depth < recursionLimit)
    (hbind : BindsTo s (fnOf name qual params body scope dV kV doc pm an cdv ct) args binds) (hkind : (binds.all fun y => scope.names.lookup y.1 == some .local || scope.names.lookup y.1 == some .cell) = true)
    (hnd : ((cellsFrom 0 scope.names []).map (·.1)).Nodup)
    (h : ∀ L' h₁ tk cells, Fr s.heap L' h₁ (bindL (envOfC qual scope L' f cdv).kindOf binds fun _ => none) → News s.heap L' h₁ cells →
      CellsAre (bindC (envOfC qual scope L' f cdv).kindOf binds fun _ => none) (cellsFrom (L' + 1) scope.names []) cells → Below A base (env :: outer) s.heap → K.In s.heap → Top p loose mean mg mb s.heap →
      wpAny (model prog w) (A.deeper (envOfC qual scope L' f cdv)) (execs body (envOfC qual scope L' f cdv))
        (fun fl s' => R (.ok (.ret (match fl with | .ret v => v | _ => .none))) s')
        (fun e s' => wpAny (model prog w) (A.deeper (envOfC qual scope L' f cdv)) (leaving (envOfC qual scope L' f cdv) e) (fun _ s'' => R (.error e) s'') (fun e' s'' => R (.error e') s'') s')
        { s with heap := h₁, toks := tk })
    (hco : scope.isCoroutine = false) (hgen : scope.isGenerator = false) (hk : scope.kind = .function) : codeAny (model prog w) A (.call (.ref f) args) R s := by
  obtain ⟨_, BG, _, _⟩ := groundX (R := R) B F (News.nil (h₀ := h₀) (h := s.heap) (L := L)) hA hf hke
  refine codeAny_call_function (fd := fnOf name qual params body scope dV kV doc pm an cdv ct) hroom ((X₀.keeps F.keep) _ _ ho) rfl hco hgen rfl (codeRec_of (X₀.keeps F.keep) hcd) (hbind _ _ _ _ ?_)
  refine wpAny_newFunctionEnv_cells hk (kindsX hkind _) fun env' he s' x => ?_
  subst he
  refine ⟨(T.nolimit.keeps F.keep).keeps x.toInCall.keep, codeAny_func ?_⟩
  obtain ⟨h₁, tk, rfl, _⟩ := x.done
  have hk₁ := x.toInCall.keep
  obtain ⟨cells, NC, Y⟩ := Cl.news (h₀ := s.heap) (Nat.le_refl _) fun n c hm => ⟨x.cell n c (lookup_of_mem_nodup (cellsFrom_names scope.names 0 (s.heap.objs.size + 1) [] [] rfl ▸ hnd) hm), x.above n c hm⟩
  exact h s.heap.objs.size h₁ tk cells ⟨x.toInCall.ns, hk₁, Nat.le_refl _⟩ NC Y BG (X₀.keeps F.keep) (T.keeps F.keep)
end
end Mine
end MCell
section MFree
namespace Mine
open PySem PySem.W PySem.Spec PySem.Calls PyProof.Rows PyProof.V

def FreeEnd (h₀ : Heap) (L : Addr) (J : (Str → Option Value) → List (Addr × Obj) → Prop) (own : List (Addr × Obj)) (s₁ s₂ : Shared) : Prop :=
  ∃ h' tk m' news', s₂ = { s₁ with heap := h', toks := tk } ∧ Fr h₀ L h' m' ∧ News h₀ L h' (news' ++ own) ∧ (∀ p ∈ news', ∀ q ∈ own, p.1 ≠ q.1) ∧ J m' news'
def FreePost (h₀ : Heap) (L : Addr) (J : (Str → Option Value) → List (Addr × Obj) → Prop) (own : List (Addr × Obj)) (s₁ : Shared) (Q : Flow → Shared → Prop) (f : Flow) (s₂ : Shared) : Prop :=
  match f with
  | .ret v => Q (.ret v) s₂
  | .brk => Q .next s₂
  | _ => FreeEnd h₀ L J own s₁ s₂
theorem FreeEnd.intro {h₀ : Heap} {L : Addr} {J : (Str → Option Value) → List (Addr × Obj) → Prop} {own news' : List (Addr × Obj)} {s₁ : Shared} {h' : Heap} {tk : Nat} {m' : Str → Option Value}
    (F : Fr h₀ L h' m') (N : News h₀ L h' (news' ++ own)) (off : ∀ p ∈ news', ∀ q ∈ own, p.1 ≠ q.1) (hj : J m' news') : FreeEnd h₀ L J own s₁ { s₁ with heap := h', toks := tk } := ⟨h', tk, m', news', rfl, F, N, off, hj⟩
section
variable {prog : Program} {w : World} {A : Around} {E : Value → Shared → Prop} {s : Shared} {env : Env} {h₀ : Heap} {x : Str} {body : List Stmt} {Q : Flow → Shared → Prop}
/-- a loop over a range whose turns may make new objects and forget old ones -/
theorem iter_rangeF {r : Addr} {a₀ b₀ : Int} {t₀ u₀ v₀ : Tok} {n : Nat} {m₀ : Str → Option Value} {news : List (Addr × Obj)} (J : Nat → (Str → Option Value) → List (Addr × Obj) → Prop)
    (hh : A.handled = none) (hr : IsRange s.heap r a₀ b₀ 1 t₀ u₀ v₀) (hsmall : Builtin.Range.small a₀ b₀ 1 = true) (hn : Builtin.Range.rangeSize a₀ b₀ 1 = (n : Int)) (F : Fr h₀ env.locals s.heap m₀) (N : News h₀ env.locals s.heap news) (hj : J 0 m₀ news)
    (turn : ∀ (i : Nat) t m₁ news₁ h tk own, i < n → J i m₁ news₁ → (∀ p ∈ news₁, ∀ q ∈ own, p.1 ≠ q.1) → Fr h₀ env.locals h (fun y => if y = x then some (.int (a₀ + (i : Int)) t) else m₁ y) → News h₀ env.locals h (news₁ ++ own) →
      wpAny (model prog w) A (execs body env) (FreePost h₀ env.locals (J (i + 1)) own { s with heap := h, toks := tk } Q) E { s with heap := h, toks := tk })
    (done : ∀ m₁ news₁ h tk, J n m₁ news₁ → Fr h₀ env.locals h m₁ → News h₀ env.locals h news₁ → Q .next { s with heap := h, toks := tk }) :
    wpAny (model prog w) A (pyIter (.ref r)) (fun it s₂ => LoopAtV prog w A h₀ env x body Q E it s₂) E s := by
  refine wpAny_pyIter_range hr hsmall ?_
  have W : Walks prog w A s.heap.objs.size [s.heap.objs.size] [s.heap.objs.size] n (fun i v => i < n ∧ ∃ t, v = .int (a₀ + i * 1) t)
      (fun i h => IsRangeIter h s.heap.objs.size (a₀ + (i : Nat) * 1) ((n : Int) - (i : Nat)) 1) := (Walks.range hh _ a₀ 1 n).bound
  have hnew := next_is_new F
  refine ⟨_, _, _, n, _, _, m₀, news, J, rfl, W, ?_, ?_, ?_, (by show IsRangeIter _ _ _ _ _; rw [hn]; simpa using Heap.get?_push_size _ rfl), F.push _, (fun p hp => ⟨Heap.get?_push_of_some _ (N p hp).1, (N p hp).2⟩), hj, ?_, ?_⟩
  · intro hm
    exact absurd F.ns.lt ((List.mem_singleton.mp hm) ▸ Nat.lt_irrefl _)
  · intro b hb
    rw [List.mem_singleton.mp hb]
    exact hnew
  · intro p hp hI
    exact absurd (Heap.lt_size (N p hp).1) ((List.mem_singleton.mp hI) ▸ Nat.lt_irrefl _)
  · rintro i v m₁ news₁ s₁ own ⟨hh', tk', rfl⟩ hin ⟨_, t, rfl⟩ hJ hoff hown hget hall hst F₁ N₁
    have hst' : ∃ o, hh'.get? s.heap.objs.size = some o := ⟨_, hst⟩
    obtain ⟨o, ho⟩ := hst'
    have hmem := hall s.heap.objs.size (List.mem_singleton.mpr rfl) hnew o ho
    have e1 : a₀ + (i : Int) * 1 = a₀ + (i : Int) := by rw [Int.mul_one]
    rw [e1] at F₁
    have off : ∀ p ∈ news₁, ∀ q ∈ own, p.1 ≠ q.1 := fun p hp q hq e => hoff p hp (by rw [e]; exact hown q hq)
    have N₂ : News h₀ env.locals hh' (news₁ ++ own) := fun p hp => N₁ p ((List.mem_append.mp hp).elim (fun h => List.mem_append.mpr (.inr h)) fun h => List.mem_append.mpr (.inl h))
    refine wpAny_mono (turn i t m₁ news₁ hh' tk' own hin hJ off F₁ N₂) (fun f s₂ p => ?_) fun _ _ e => e
    have fin : FreeEnd h₀ env.locals (J (i + 1)) own { s with heap := hh', toks := tk' } s₂ → LoopStepU h₀ env.locals [s.heap.objs.size] own (J (i + 1)) { s with heap := hh', toks := tk' } .next s₂ := by
      rintro ⟨h', tk, m', news', e, F', N', ho', hj'⟩
      refine ⟨rfl, h', tk, m', news', e, F', fun p hp => N' p ((List.mem_append.mp hp).elim (fun h => List.mem_append.mpr (.inr h)) fun h => List.mem_append.mpr (.inl h)), fun p hp hI => ho' p hp _ hmem (List.mem_singleton.mp hI), hj'⟩
    cases f with
    | ret v => exact .ret p
    | brk => exact .brk p
    | next => exact .next (fin p)
    | cont => exact .cont (fin p)
  · rintro h' tk m' news' F' N' _ hJ
    exact done m' news' h' tk hJ F' N'
theorem fr_pin {L : Addr} {h : Heap} {m : Str → Option Value} {x : Str} {v : Value} (F : Fr h₀ L h m) (e : m x = some v) : Fr h₀ L h (fun y => if y = x then some v else m y) := by
  have : (fun y => if y = x then some v else m y) = m := by
    funext y
    by_cases q : y = x
    · rw [if_pos q, q, e]
    · rw [if_neg q]
  rw [this]
  exact F
end
end Mine
end MFree
section FLimb
namespace Mine
theorem fresh_FLimb : True := by
  k_with_none
  w_top off
  trivial
open PySem PySem.W PySem.Spec PySem.Calls PyProof.Rows
local macro_rules | `(tactic| walk_at "m enter") => `(tactic| (
  (case kA => exact rfl); (case kF => assumption); (case kK => assumption); (case k1 => assumption); (case k2 => assumption); (case k3 => assumption); (case k5 => assumption); (case k6 => k_is); (case k7 => k_is); (case k8 => ((try dsimp only [around]); omega)); (case k9 => exact BindsTo.of_eq rfl); (case c5 => decide); (case kB => exact locs rfl); (case c2 => exact rfl); (case c3 => exact rfl); (case c4 => exact rfl); k_whole; intro L' h' F' N' B' X' T'; (try dsimp only); (try k_fold)))
local macro_rules | `(tactic| size_fits) => `(tactic| (refine fits_ints (by assumption) ?_; first | omega | fail "m: no length"))
local macro_rules | `(tactic| walk_at "exec While Compare cons nil") => `(tactic| (k_here; with_reducible refine Rest.mk ?_))
local macro_rules | `(tactic| walk_at "m steps") => `(tactic| repeat' (first | (k_unfold; (try dsimp only)) | walk1 | (dsimp only; first | (k_unfold; (try dsimp only)) | walk1) | (k_unmd; k_unfold; (try dsimp only))))
local macro_rules | `(tactic| kst_facts) => `(tactic| ((try dsimp only); first | exact IntsAre.nil | exact True.intro | assumption | exact IntsAre.append (by assumption) (.cons _ _ .nil)))
local macro_rules | `(tactic| walk_at "exec While BoolOp cons nil") => `(tactic| (k_here; with_reducible refine Rest.mk ?_))
local macro_rules | `(tactic| walk_at "call ref") => `(tactic| (k_here; with_reducible refine Rest.mk ?_))
local macro_rules | `(tactic| walk_at "m ctx") => `(tactic| ((case kB => assumption); (case kF => assumption); (case kN => assumption); (case kX => assumption); (case kT => assumption); (case hf => exact rfl); (case hk => exact rfl); (case hd => ((try dsimp only [around, Around.deeper]); omega)); (case hu => ((try dsimp only [around, Around.deeper]); omega))))
local macro_rules | `(tactic| walk_at "exec For Tuple Call cons nil") => `(tactic| (k_here; with_reducible refine Rest.mk ?_))
local macro_rules | `(tactic| walk_at "call type:enumerate") => `(tactic| (k_here; with_reducible refine Rest.mk ?_))

def pop (n : Nat) : Nat := n % 2 + n / 2 % 2 + n / 4 % 2 + n / 8 % 2
theorem pop_step0 : ∀ n : Nat, n < 16 → 0 < n → 0 ≤ Builtin.bitAnd (n : Int) ((n : Int) - 1) ∧ Builtin.bitAnd (n : Int) ((n : Int) - 1) < n ∧ pop (Builtin.bitAnd (n : Int) ((n : Int) - 1)).toNat + 1 = pop n := by decide +kernel
theorem pop_step {l f X : Int} (h0 : 0 ≤ l) (h1 : l < 16) (h2 : 0 < l) (e : f + (pop l.toNat : Nat) = X) :
    0 ≤ Builtin.bitAnd l (l - 1) ∧ Builtin.bitAnd l (l - 1) < 16 ∧ f + 1 + (pop (Builtin.bitAnd l (l - 1)).toNat : Nat) = X := by
  obtain ⟨n, rfl⟩ := Int.eq_ofNat_of_zero_le h0
  have := pop_step0 n (by omega) (by omega)
  have e1 : (n : Int).toNat = n := by simp
  rw [e1] at e
  omega
theorem pop_less {l : Int} (h0 : 0 ≤ l) (h1 : l < 16) (h2 : 0 < l) : (Builtin.bitAnd l (l - 1)).toNat < l.toNat := by
  obtain ⟨n, rfl⟩ := Int.eq_ofNat_of_zero_le h0
  have := pop_step0 n (by omega) (by omega)
  omega
theorem pop_end {l f X : Int} (h0 : 0 ≤ l) (h2 : ¬0 < l) (e : f + (pop l.toNat : Nat) = X) : f = X := by
  have e1 : l = 0 := by omega
  subst e1
  have : pop (0 : Int).toNat = 0 := by decide
  omega
set_option maxHeartbeats 4000000 in
theorem limb_ones_says (w : World) (mean : ExcName → Option Value) (mg mb : Str → Option Value) (h : Heap) (x : Int) (t : Tok) (hx : 0 ≤ x) (hx2 : x < 16) :
    Says w mean mg mb 21 [.int x t] 2 8 h (PInt fun k => k = pop x.toNat) := by
  unfold Says
  k_fill
  intro dp un gd env outer A₀ base h₀ L m s Q E hsh B F X T hf hk hdp hun ret
  subst hsh
  refine wpAny_call ?_
  refine' enter_pure (binds := [(Str.ofString "limb", .int x t)]) ?k1 ?k2 ?k3 ?k5 ?kA ?kF ?kK ?k6 ?k7 ?k8 ?k9 ?kB ?_ ?c2 ?c3 ?c4 ?c5
  walk_at "m enter"
  k_with "state" => first | exact pop_step (by assumption) (by assumption) (by assumption) (by assumption) | exact ⟨hx, hx2, by omega⟩
  k_with "measure" => exact pop_less (by assumption) (by assumption) (by assumption)
  walk_at "m steps"
  refine Rest.out ?_
  k_while (fun _ limb found => 0 ≤ limb ∧ limb < 16 ∧ found + (pop limb.toNat : Nat) = (pop x.toNat : Nat)) (fun _ limb found => limb.toNat) "limb" "found"
  walk_at "m steps"
  refine ret _ _ _ (Fr.keep (by assumption)) ⟨_, _, rfl, ?_⟩
  exact pop_end (by assumption) (by assumption) (by assumption)

end Mine
end FLimb
section FLawLimbs
namespace Mine
theorem fresh_FLawLimbs : True := by
  k_with_none
  w_top off
  trivial
open PySem PySem.W PySem.Spec PySem.Calls PyProof.Rows
local macro_rules | `(tactic| walk_at "m enter") => `(tactic| (
  (case kA => exact rfl); (case kF => assumption); (case kK => assumption); (case k1 => assumption); (case k2 => assumption); (case k3 => assumption); (case k5 => assumption); (case k6 => k_is); (case k7 => k_is); (case k8 => ((try dsimp only [around]); omega)); (case k9 => exact BindsTo.of_eq rfl); (case c5 => decide); (case kB => exact locs rfl); (case c2 => exact rfl); (case c3 => exact rfl); (case c4 => exact rfl); k_whole; intro L' h' F' N' B' X' T'; (try dsimp only); (try k_fold)))
local macro_rules | `(tactic| size_fits) => `(tactic| (refine fits_ints (by assumption) ?_; first | omega | fail "m: no length"))
local macro_rules | `(tactic| walk_at "exec While Compare cons nil") => `(tactic| (k_here; with_reducible refine Rest.mk ?_))
local macro_rules | `(tactic| walk_at "m steps") => `(tactic| repeat' (first | (k_unfold; (try dsimp only)) | walk1 | (dsimp only; first | (k_unfold; (try dsimp only)) | walk1) | (k_unmd; k_unfold; (try dsimp only))))
local macro_rules | `(tactic| kst_facts) => `(tactic| ((try dsimp only); first | exact IntsAre.nil | exact True.intro | assumption | exact IntsAre.append (by assumption) (.cons _ _ .nil)))
local macro_rules | `(tactic| walk_at "exec While BoolOp cons nil") => `(tactic| (k_here; with_reducible refine Rest.mk ?_))
local macro_rules | `(tactic| walk_at "call ref") => `(tactic| (k_here; with_reducible refine Rest.mk ?_))
local macro_rules | `(tactic| walk_at "m ctx") => `(tactic| ((case kB => assumption); (case kF => assumption); (case kN => assumption); (case kX => assumption); (case kT => assumption); (case hf => exact rfl); (case hk => exact rfl); (case hd => ((try dsimp only [around, Around.deeper]); omega)); (case hu => ((try dsimp only [around, Around.deeper]); omega))))
local macro_rules | `(tactic| walk_at "exec For Tuple Call cons nil") => `(tactic| (k_here; with_reducible refine Rest.mk ?_))
local macro_rules | `(tactic| walk_at "call type:enumerate") => `(tactic| (k_here; with_reducible refine Rest.mk ?_))

/-- the low limbs are taken off x: what stands between two turns -/
def Cut (B x n : Int) (f : List Int) : Prop := Lim B f ∧ val B f + B ^ f.length * n = x ∧ (f ≠ [] → B ^ (f.length - 1) ≤ x)
theorem Cut.start {B x : Int} : Cut B x x [] := ⟨.nil, by simp [val], fun h => absurd rfl h⟩
theorem Cut.step {B x n : Int} {f : List Int} (hB : 8 ≤ B) (h : Cut B x n f) (hn : 0 < n) : Cut B x (n / B) (f ++ [n % B]) := by
  obtain ⟨h2, h3, h4⟩ := h
  have m0 := Int.emod_nonneg n (show B ≠ 0 by omega)
  have m1 := Int.emod_lt_of_pos n (show 0 < B by omega)
  refine ⟨h2.snoc m0 m1, split_is h3, fun _ => ?_⟩
  rw [List.length_append, List.length_singleton, Nat.add_sub_cancel]
  have h5 := val_nonneg (show 2 ≤ B by omega) h2
  have h6 := Int.mul_le_mul_of_nonneg_left (show 1 ≤ n by omega) (Int.le_of_lt (ipow_pos (show 2 ≤ B by omega) f.length))
  omega
theorem Cut.done {B x n : Int} {f : List Int} (h : Cut B x n f) (h0 : 0 ≤ n) (hn : ¬0 < n) : Can B f ∧ val B f = x := by
  obtain ⟨h2, h3, h4⟩ := h
  have e : n = 0 := by omega
  subst e
  rw [Int.mul_zero, Int.add_zero] at h3
  exact ⟨⟨h2, h3 ▸ h4⟩, h3⟩
theorem cut_less {B n : Int} (hB : 8 ≤ B) (hn : 0 < n) : 0 ≤ n / B ∧ n / B < n :=
  ⟨Int.ediv_nonneg (by omega) (by omega), Int.ediv_lt_self_of_pos_of_ne_one (by omega) (by omega)⟩
theorem fdiv_B (x : Int) (k : Nat) : x.fdiv (2 ^ k) = x / 2 ^ k := Int.fdiv_eq_ediv_of_nonneg _ (Int.le_of_lt (ipow_pos (by decide) _))
theorem fmod_B (x : Int) (k : Nat) : x.fmod (2 ^ k) = x % 2 ^ k := Int.fmod_eq_emod_of_nonneg _ (Int.le_of_lt (ipow_pos (by decide) _))
theorem limbs_state {x n : Int} {k : Nat} {f : List Int} (hB : 8 ≤ (2 : Int) ^ k) (h1 : (f.length : Int) + n ≤ x) (h : Cut (2 ^ k) x n f) (hn : 0 < n) :
    0 ≤ n.fdiv (2 ^ k) ∧ ((f ++ [n.fmod (2 ^ k)]).length : Int) + n.fdiv (2 ^ k) ≤ x ∧ Cut (2 ^ k) x (n.fdiv (2 ^ k)) (f ++ [n.fmod (2 ^ k)]) := by
  rw [fdiv_B, fmod_B]
  have := cut_less hB hn
  exact ⟨this.1, by rw [List.length_append, List.length_singleton]; omega, h.step hB hn⟩
theorem limbs_less {n : Int} {k : Nat} (hB : 8 ≤ (2 : Int) ^ k) (hn : 0 < n) : (n.fdiv (2 ^ k)).toNat < n.toNat := by
  rw [fdiv_B]
  have := cut_less hB hn
  omega
set_option maxHeartbeats 1000000 in
theorem law_limbs_says (w : World) (mean : ExcName → Option Value) (mg mb : Str → Option Value) (h : Heap) (x W : Int) (t u : Tok) (hx : 0 ≤ x) (hx2 : x < 4096) (hW : 3 ≤ W) (hW2 : W ≤ 8) :
    Says w mean mg mb 231 [.int x t, .int W u] 2 8 h (PList h fun ns => Can (2 ^ W.toNat) ns ∧ val (2 ^ W.toNat) ns = x) := by
  unfold Says
  k_fill
  intro dp un gd env outer A₀ base h₀ L m s Q E hsh B F X T hf hk hdp hun ret
  subst hsh
  have hB := two_pow_ge hW
  refine wpAny_call ?_
  refine' enter_pure (binds := [(Str.ofString "number", .int x t), (Str.ofString "w", .int W u)]) ?k1 ?k2 ?k3 ?k5 ?kA ?kF ?kK ?k6 ?k7 ?k8 ?k9 ?kB ?_ ?c2 ?c3 ?c4 ?c5
  walk_at "m enter"
  k_with "state" => first | exact ⟨hx, by simp, Cut.start⟩ | exact limbs_state hB (by assumption) (by assumption) (by assumption)
  k_with "measure" => exact limbs_less hB (by assumption)
  walk_at "m steps"
  refine Rest.out ?_
  k_while (fun _ number found => 0 ≤ number ∧ (found.length : Int) + number ≤ x ∧ Cut (2 ^ W.toNat) x number found) (fun _ number _ => number.toNat) "number" "found"
  walk_at "m steps"
  refine ret _ _ _ (Fr.keep (by assumption)) (list_end (by assumption) (by repeat (first | exact .head _ | refine .tail _ ?_)) (by first | assumption | exact ints_concat (by assumption) | exact IntsAre.append (by assumption) (.cons _ _ .nil)) ?_)
  exact Cut.done (by assumption) (by assumption) (by assumption)

end Mine
end FLawLimbs
section FNatOf
namespace Mine
theorem fresh_FNatOf : True := by
  k_with_none
  w_top off
  trivial
open PySem PySem.W PySem.Spec PySem.Calls PyProof.Rows
local macro_rules | `(tactic| walk_at "m enter") => `(tactic| (
  (case kA => exact rfl); (case kF => assumption); (case kK => assumption); (case k1 => assumption); (case k2 => assumption); (case k3 => assumption); (case k5 => assumption); (case k6 => k_is); (case k7 => k_is); (case k8 => ((try dsimp only [around]); omega)); (case k9 => exact BindsTo.of_eq rfl); (case c5 => decide); (case kB => exact locs rfl); (case c2 => exact rfl); (case c3 => exact rfl); (case c4 => exact rfl); k_whole; intro L' h' F' N' B' X' T'; (try dsimp only); (try k_fold)))
local macro_rules | `(tactic| size_fits) => `(tactic| (refine fits_ints (by assumption) ?_; first | omega | fail "m: no length"))
local macro_rules | `(tactic| walk_at "exec While Compare cons nil") => `(tactic| (k_here; with_reducible refine Rest.mk ?_))
local macro_rules | `(tactic| walk_at "m steps") => `(tactic| repeat' (first | (k_unfold; (try dsimp only)) | walk1 | (dsimp only; first | (k_unfold; (try dsimp only)) | walk1) | (k_unmd; k_unfold; (try dsimp only))))
local macro_rules | `(tactic| kst_facts) => `(tactic| ((try dsimp only); first | exact IntsAre.nil | exact True.intro | assumption | exact IntsAre.append (by assumption) (.cons _ _ .nil)))
local macro_rules | `(tactic| walk_at "exec While BoolOp cons nil") => `(tactic| (k_here; with_reducible refine Rest.mk ?_))
local macro_rules | `(tactic| walk_at "call ref") => `(tactic| (k_here; with_reducible refine Rest.mk ?_))
local macro_rules | `(tactic| walk_at "m ctx") => `(tactic| ((case kB => assumption); (case kF => assumption); (case kN => assumption); (case kX => assumption); (case kT => assumption); (case hf => exact rfl); (case hk => exact rfl); (case hd => ((try dsimp only [around, Around.deeper]); omega)); (case hu => ((try dsimp only [around, Around.deeper]); omega))))
local macro_rules | `(tactic| walk_at "exec For Tuple Call cons nil") => `(tactic| (k_here; with_reducible refine Rest.mk ?_))
local macro_rules | `(tactic| walk_at "call type:enumerate") => `(tactic| (k_here; with_reducible refine Rest.mk ?_))

theorem natof_state {x n : Int} {k : Nat} {f : List Int} (hB : 8 ≤ (2 : Int) ^ k) (h1 : (f.length : Int) + n ≤ x) (h : Cut (2 ^ k) x n f) (hn : 0 < n) :
    0 ≤ n.fdiv (2 ^ k) ∧ ((f ++ [Builtin.bitAnd n (1 * 2 ^ k - 1)]).length : Int) + n.fdiv (2 ^ k) ≤ x ∧ Cut (2 ^ k) x (n.fdiv (2 ^ k)) (f ++ [Builtin.bitAnd n (1 * 2 ^ k - 1)]) := by
  rw [Int.one_mul, PySem.W.kbt_mask, ← fmod_B]
  exact limbs_state hB h1 h hn
set_option maxHeartbeats 1000000 in
theorem nat_of_says (w : World) (mean : ExcName → Option Value) (mg mb : Str → Option Value) (h : Heap) (x W : Int) (t u : Tok) (hx : 0 ≤ x) (hx2 : x < 4096) (hW : 3 ≤ W) (hW2 : W ≤ 8) :
    Says w mean mg mb 72 [.int x t, .int W u] 2 8 h (PList h fun ns => Can (2 ^ W.toNat) ns ∧ val (2 ^ W.toNat) ns = x) := by
  unfold Says
  k_fill
  intro dp un gd env outer A₀ base h₀ L m s Q E hsh B F X T hf hk hdp hun ret
  subst hsh
  have hB := two_pow_ge hW
  refine wpAny_call ?_
  refine' enter_pure (binds := [(Str.ofString "number", .int x t), (Str.ofString "w", .int W u)]) ?k1 ?k2 ?k3 ?k5 ?kA ?kF ?kK ?k6 ?k7 ?k8 ?k9 ?kB ?_ ?c2 ?c3 ?c4 ?c5
  walk_at "m enter"
  k_with "state" => first | exact ⟨hx, by simp, Cut.start⟩ | exact natof_state hB (by assumption) (by assumption) (by assumption)
  k_with "measure" => exact limbs_less hB (by assumption)
  walk_at "m steps"
  refine Rest.out ?_
  k_while (fun _ number found => 0 ≤ number ∧ (found.length : Int) + number ≤ x ∧ Cut (2 ^ W.toNat) x number found) (fun _ number _ => number.toNat) "number" "found"
  walk_at "m steps"
  refine ret _ _ _ (Fr.keep (by assumption)) (list_end (by assumption) (by repeat (first | exact .head _ | refine .tail _ ?_)) (by first | assumption | exact ints_concat (by assumption) | exact IntsAre.append (by assumption) (.cons _ _ .nil)) ?_)
  exact Cut.done (by assumption) (by assumption) (by assumption)

end Mine
end FNatOf
section FNormal
namespace Mine
theorem fresh_FNormal : True := by
  k_with_none
  w_top off
  trivial
open PySem PySem.W PySem.Spec PySem.Calls PyProof.Rows
local macro_rules | `(tactic| walk_at "m enter") => `(tactic| (
  (case kA => exact rfl); (case kF => assumption); (case kK => assumption); (case k1 => assumption); (case k2 => assumption); (case k3 => assumption); (case k5 => assumption); (case k6 => k_is); (case k7 => k_is); (case k8 => ((try dsimp only [around]); omega)); (case k9 => exact BindsTo.of_eq rfl); (case c5 => decide); (case kB => exact locs rfl); (case c2 => exact rfl); (case c3 => exact rfl); (case c4 => exact rfl); k_whole; intro L' h' F' N' B' X' T'; (try dsimp only); (try k_fold)))
local macro_rules | `(tactic| size_fits) => `(tactic| (refine fits_ints (by assumption) ?_; first | omega | fail "m: no length"))
local macro_rules | `(tactic| walk_at "exec While Compare cons nil") => `(tactic| (k_here; with_reducible refine Rest.mk ?_))
local macro_rules | `(tactic| walk_at "m steps") => `(tactic| repeat' (first | (k_unfold; (try dsimp only)) | walk1 | (dsimp only; first | (k_unfold; (try dsimp only)) | walk1) | (k_unmd; k_unfold; (try dsimp only))))
local macro_rules | `(tactic| kst_facts) => `(tactic| ((try dsimp only); first | exact IntsAre.nil | exact True.intro | assumption | exact IntsAre.append (by assumption) (.cons _ _ .nil)))
local macro_rules | `(tactic| walk_at "exec While BoolOp cons nil") => `(tactic| (k_here; with_reducible refine Rest.mk ?_))
local macro_rules | `(tactic| walk_at "call ref") => `(tactic| (k_here; with_reducible refine Rest.mk ?_))
local macro_rules | `(tactic| walk_at "m ctx") => `(tactic| ((case kB => assumption); (case kF => assumption); (case kN => assumption); (case kX => assumption); (case kT => assumption); (case hf => exact rfl); (case hk => exact rfl); (case hd => ((try dsimp only [around, Around.deeper]); omega)); (case hu => ((try dsimp only [around, Around.deeper]); omega))))
local macro_rules | `(tactic| walk_at "exec For Tuple Call cons nil") => `(tactic| (k_here; with_reducible refine Rest.mk ?_))
local macro_rules | `(tactic| walk_at "call type:enumerate") => `(tactic| (k_here; with_reducible refine Rest.mk ?_))

theorem normal_step {ns : List Int} {e : Int} (h0 : 0 < e) (h1 : e ≤ (ns.length : Int)) (h : ∀ i : Nat, e ≤ (i : Int) → ns.getD i 0 = 0) (hz : ns.getD (e - 1).toNat 0 = 0) :
    0 ≤ e - 1 ∧ e - 1 ≤ (ns.length : Int) ∧ ∀ i : Nat, e - 1 ≤ (i : Int) → ns.getD i 0 = 0 := by
  refine ⟨by omega, by omega, fun i hi => ?_⟩
  rcases Int.lt_or_le (i : Int) e with q | q
  · have : (e - 1).toNat = i := by omega
    rw [← this]; exact hz
  · exact h i q
theorem val_take_zero {B : Int} {ns : List Int} : ∀ (k j : Nat), (∀ i : Nat, k ≤ i → ns.getD i 0 = 0) → val B (ns.take (k + j)) = val B (ns.take k)
  | k, 0, _ => rfl
  | k, j + 1, h => by
    rw [← Nat.add_assoc, val_take' (k + j), h _ (by omega), Int.mul_zero, Int.add_zero, val_take_zero k j h]
theorem normal_val {B : Int} {ns : List Int} {k : Nat} (hk : k ≤ ns.length) (h : ∀ i : Nat, k ≤ i → ns.getD i 0 = 0) : val B (ns.take k) = val B ns := by
  have := val_take_zero (B := B) k (ns.length - k) h
  rw [show k + (ns.length - k) = ns.length by omega, List.take_length] at this
  exact this.symm
theorem normal_end0 {ns : List Int} {e : Int} (h0 : 0 ≤ e) (h1 : e ≤ (ns.length : Int)) (h : ∀ i : Nat, e ≤ (i : Int) → ns.getD i 0 = 0) (hz : ¬0 < e ∨ ¬ns.getD (e - 1).toNat 0 = 0) :
    ∀ B, 2 ≤ B → Lim B ns → Can B (ns.take e.toNat) ∧ val B (ns.take e.toNat) = val B ns := by
  intro B hB hl
  have hv := normal_val (B := B) (ns := ns) (k := e.toNat) (by omega) (fun i hi => h i (by omega))
  refine ⟨?_, hv⟩
  rcases hz with hz | hz
  · have : e.toNat = 0 := by omega
    rw [this]
    exact Can.nil
  · have hp : 0 < e := by
      rcases Int.lt_or_le 0 e with q | q
      · exact q
      · exact absurd (h _ (by omega)) hz
    obtain ⟨k, hk⟩ : ∃ k : Nat, e = (k : Int) + 1 := ⟨(e - 1).toNat, by omega⟩
    have e1 : e.toNat = k + 1 := by omega
    have e2 : (e - 1).toNat = k := by omega
    rw [e2] at hz
    rw [e1, getD_lt (show k < ns.length by omega)]
    refine Can.top hB ?_ hz
    rw [← getD_lt (show k < ns.length by omega)]
    exact hl.take _
set_option maxHeartbeats 1000000 in
theorem normal_says (w : World) (mean : ExcName → Option Value) (mg mb : Str → Option Value) (h : Heap) (l : Addr) (vs : List Value) (ns : List Int) (hl : h.IsList l vs.toArray) (hi : IntsAre vs ns) (hlen : ns.length ≤ 1000) :
    Says w mean mg mb 65 [.ref l] 2 8 h (PList h fun rs => ∀ B, 2 ≤ B → Lim B ns → Can B rs ∧ val B rs = val B ns) := by
  unfold Says
  k_fill
  intro dp un gd env outer A₀ base h₀ L m s Q E hsh B F X T hf hk hdp hun ret
  subst hsh
  refine wpAny_call ?_
  refine' enter_pure (binds := [(Str.ofString "a", .ref l)]) ?k1 ?k2 ?k3 ?k5 ?kA ?kF ?kK ?k6 ?k7 ?k8 ?k9 ?kB ?_ ?c2 ?c3 ?c4 ?c5
  walk_at "m enter"
  k_with "state" => first | exact ⟨by omega, by omega, fun i hi => getD_out (by omega)⟩ | exact normal_step (by assumption) (by assumption) (by assumption) (by assumption)
  k_with "measure" => omega
  walk_at "m steps"
  refine Rest.out ?_
  k_while (fun _ end' => 0 ≤ end' ∧ end' ≤ (ns.length : Int) ∧ ∀ i : Nat, end' ≤ (i : Int) → ns.getD i 0 = 0) (fun _ end' => end'.toNat) "end"
  walk_at "m steps"
  all_goals (
    refine ret _ _ _ (Fr.keep (by assumption)) (list_end (by assumption) (by repeat (first | exact .head _ | refine .tail _ ?_)) (by first | assumption | exact ints_concat (by assumption) | exact IntsAre.append (by assumption) (.cons _ _ .nil)) ?_)
    exact normal_end0 (by assumption) (by assumption) (by assumption) (by first | exact .inl (by assumption) | exact .inr (by assumption)))

end Mine
end FNormal
section FAdd
namespace Mine
theorem fresh_FAdd : True := by
  k_with_none
  w_top off
  trivial
open PySem PySem.W PySem.Spec PySem.Calls PyProof.Rows
local macro_rules | `(tactic| walk_at "m enter") => `(tactic| (
  (case kA => exact rfl); (case kF => assumption); (case kK => assumption); (case k1 => assumption); (case k2 => assumption); (case k3 => assumption); (case k5 => assumption); (case k6 => k_is); (case k7 => k_is); (case k8 => ((try dsimp only [around]); omega)); (case k9 => exact BindsTo.of_eq rfl); (case c5 => decide); (case kB => exact locs rfl); (case c2 => exact rfl); (case c3 => exact rfl); (case c4 => exact rfl); k_whole; intro L' h' F' N' B' X' T'; (try dsimp only); (try k_fold)))
local macro_rules | `(tactic| size_fits) => `(tactic| (refine fits_ints (by assumption) ?_; first | omega | fail "m: no length"))
local macro_rules | `(tactic| walk_at "exec While Compare cons nil") => `(tactic| (k_here; with_reducible refine Rest.mk ?_))
local macro_rules | `(tactic| walk_at "m steps") => `(tactic| repeat' (first | (k_unfold; (try dsimp only)) | walk1 | (dsimp only; first | (k_unfold; (try dsimp only)) | walk1) | (k_unmd; k_unfold; (try dsimp only))))
local macro_rules | `(tactic| kst_facts) => `(tactic| ((try dsimp only); first | exact IntsAre.nil | exact True.intro | assumption | exact IntsAre.append (by assumption) (.cons _ _ .nil)))
local macro_rules | `(tactic| walk_at "exec While BoolOp cons nil") => `(tactic| (k_here; with_reducible refine Rest.mk ?_))
local macro_rules | `(tactic| walk_at "call ref") => `(tactic| (k_here; with_reducible refine Rest.mk ?_))
local macro_rules | `(tactic| walk_at "m ctx") => `(tactic| ((case kB => assumption); (case kF => assumption); (case kN => assumption); (case kX => assumption); (case kT => assumption); (case hf => exact rfl); (case hk => exact rfl); (case hd => ((try dsimp only [around, Around.deeper]); omega)); (case hu => ((try dsimp only [around, Around.deeper]); omega))))
local macro_rules | `(tactic| walk_at "exec For Tuple Call cons nil") => `(tactic| (k_here; with_reducible refine Rest.mk ?_))
local macro_rules | `(tactic| walk_at "call type:enumerate") => `(tactic| (k_here; with_reducible refine Rest.mk ?_))

theorem split_k {B v c : Int} {f : List Int} (h : val B f + B ^ f.length * c = v) : val B (f ++ [c % B]) + B ^ (f.length + 1) * (c / B) = v := by
  have := split_is h
  rwa [List.length_append, List.length_singleton] at this
/-- k limbs of the sum stand in f, c is carried -/
def AddInv (B : Int) (ns ms : List Int) (k : Nat) (c : Int) (f : List Int) : Prop := Lim B f ∧ f.length = k ∧ val B f + B ^ k * c = val B (ns.take k) + val B (ms.take k)
theorem AddInv.start {B : Int} {ns ms : List Int} : AddInv B ns ms 0 0 [] := ⟨.nil, rfl, by simp [val]⟩
theorem AddInv.turn {K k : Nat} {c : Int} {ns ms f : List Int} (hB : 8 ≤ (2 : Int) ^ K) (la : Lim (2 ^ K) ns) (lb : Lim (2 ^ K) ms) (h0 : 0 ≤ c) (h1 : c ≤ 1) (I : AddInv (2 ^ K) ns ms k c f) :
    0 ≤ (c + (ns.getD k 0 + ms.getD k 0)).fdiv (2 ^ K) ∧ (c + (ns.getD k 0 + ms.getD k 0)).fdiv (2 ^ K) ≤ 1 ∧
      AddInv (2 ^ K) ns ms (k + 1) ((c + (ns.getD k 0 + ms.getD k 0)).fdiv (2 ^ K)) (f ++ [Builtin.bitAnd (c + (ns.getD k 0 + ms.getD k 0)) (1 * 2 ^ K - 1)]) := by
  obtain ⟨hl, hk, hv⟩ := I
  rw [Int.one_mul, PySem.W.kbt_mask, fdiv_B]
  have a0 := la.getD (by omega) k
  have b0 := lb.getD (by omega) k
  generalize hx : c + (ns.getD k 0 + ms.getD k 0) = x at *
  have q0 : 0 ≤ x / 2 ^ K := Int.ediv_nonneg (by omega) (by omega)
  have q1 : x / 2 ^ K ≤ 1 := by
    have : x / 2 ^ K < 2 := Int.ediv_lt_of_lt_mul (by omega) (by omega)
    omega
  refine ⟨q0, q1, hl.snoc (Int.emod_nonneg _ (by omega)) (Int.emod_lt_of_pos _ (by omega)), by simp [hk], ?_⟩
  rw [val_take', val_take', ← hk]
  refine split_k ?_
  rw [← hx, hk, Int.mul_add, Int.mul_add, ← Int.add_assoc, hv]
  omega
theorem AddInv.turn1 {K : Nat} {c n : Int} {ns ms f pre : List Int} (hB : 8 ≤ (2 : Int) ^ K) (la : Lim (2 ^ K) ns) (lb : Lim (2 ^ K) ms) (hn : n = 0 + (pre.length : Int)) (h0 : 0 ≤ c) (h1 : c ≤ 1) (I : AddInv (2 ^ K) ns ms pre.length c f) :
    (f ++ [Builtin.bitAnd (c + (ns.getD n.toNat 0 + ms.getD n.toNat 0)) (1 * 2 ^ K - 1)]).length = (pre ++ [n]).length ∧ 0 ≤ (c + (ns.getD n.toNat 0 + ms.getD n.toNat 0)).fdiv (2 ^ K) ∧ (c + (ns.getD n.toNat 0 + ms.getD n.toNat 0)).fdiv (2 ^ K) ≤ 1 ∧
      AddInv (2 ^ K) ns ms (pre ++ [n]).length ((c + (ns.getD n.toNat 0 + ms.getD n.toNat 0)).fdiv (2 ^ K)) (f ++ [Builtin.bitAnd (c + (ns.getD n.toNat 0 + ms.getD n.toNat 0)) (1 * 2 ^ K - 1)]) := by
  have e : n.toNat = pre.length := by omega
  rw [e]
  have := I.turn hB la lb h0 h1
  refine ⟨by simp [I.2.1], this.1, this.2.1, ?_⟩
  rw [List.length_append, List.length_singleton]
  exact this.2.2
theorem AddInv.turn2 {K : Nat} {c n : Int} {ns ms f pre : List Int} (hB : 8 ≤ (2 : Int) ^ K) (la : Lim (2 ^ K) ns) (lb : Lim (2 ^ K) ms) (hn : n = (ms.length : Int) + (pre.length : Int)) (h0 : 0 ≤ c) (h1 : c ≤ 1) (I : AddInv (2 ^ K) ns ms (ms.length + pre.length) c f) :
    (f ++ [Builtin.bitAnd (c + ns.getD n.toNat 0) (1 * 2 ^ K - 1)]).length = ms.length + (pre ++ [n]).length ∧ 0 ≤ (c + ns.getD n.toNat 0).fdiv (2 ^ K) ∧ (c + ns.getD n.toNat 0).fdiv (2 ^ K) ≤ 1 ∧
      AddInv (2 ^ K) ns ms (ms.length + (pre ++ [n]).length) ((c + ns.getD n.toNat 0).fdiv (2 ^ K)) (f ++ [Builtin.bitAnd (c + ns.getD n.toNat 0) (1 * 2 ^ K - 1)]) := by
  have e : n.toNat = ms.length + pre.length := by omega
  rw [e]
  have := I.turn hB la lb h0 h1
  rw [getD_out (l := ms) (k := ms.length + pre.length) (by omega), Int.add_zero] at this
  rw [List.length_append (bs := [n]), List.length_singleton, ← Nat.add_assoc]
  exact ⟨by simp [I.2.1], this⟩
theorem AddInv.all {B c : Int} {ns ms f : List Int} {k : Nat} (h : AddInv B ns ms k c f) (h1 : ms.length ≤ ns.length) (hk : k = ns.length) : val B f + B ^ ns.length * c = val B ns + val B ms := by
  have e := h.2.2
  rwa [hk, take_all (Nat.le_refl _), take_all h1] at e
theorem AddInv.out1 {B c : Int} {ns ms f : List Int} {k : Nat} (hB : 8 ≤ B) (h : AddInv B ns ms k c f) (h1 : ms.length ≤ ns.length) (hk : k = ns.length) (c0 : 0 < c) (c1 : c ≤ 1) : Can B (f ++ [c]) ∧ val B (f ++ [c]) = val B ns + val B ms := by
  refine ⟨Can.top (by omega) (h.1.snoc (by omega) (by omega)) (by omega), ?_⟩
  rw [val_snoc, h.2.1, hk]
  exact h.all h1 hk
theorem AddInv.out0 {B c : Int} {ns ms f : List Int} {k : Nat} (hB : 8 ≤ B) (ca : Can B ns) (cb : Can B ms) (h : AddInv B ns ms k c f) (h1 : ms.length ≤ ns.length) (hk : k = ns.length) (c0 : ¬0 < c) (c1 : 0 ≤ c) : Can B f ∧ val B f = val B ns + val B ms := by
  have e : c = 0 := by omega
  have hv := h.all h1 hk
  rw [e, Int.mul_zero, Int.add_zero] at hv
  refine ⟨⟨h.1, fun hf => ?_⟩, hv⟩
  have hl : f.length = ns.length := h.2.1.trans hk
  have hn : ns ≠ [] := fun q => hf (List.length_eq_zero_iff.mp (by rw [hl, q]; rfl))
  have h2 := ca.2 hn
  have h3 := val_nonneg (show 2 ≤ B by omega) cb.1
  rw [hl]
  omega
theorem AddInv.swap {B c : Int} {ns ms f : List Int} {k : Nat} (h : AddInv B ns ms k c f) : AddInv B ms ns k c f := ⟨h.1, h.2.1, by rw [h.2.2]; omega⟩
theorem AddInv.mid {B c : Int} {ns ms f : List Int} {r : List Int} (hr : r.length = ms.length) (h0 : 0 ≤ c) (h1 : c ≤ 1) (I : AddInv B ns ms r.length c f) :
    f.length = ms.length + ([] : List Int).length ∧ 0 ≤ c ∧ c ≤ 1 ∧ AddInv B ns ms (ms.length + ([] : List Int).length) c f := by
  rw [hr] at I
  exact ⟨I.2.1, h0, h1, I⟩
theorem no_newsA {h₀ h : Heap} {L : Addr} {m : Str → Option Value} (_F : Fr h₀ L h m) : News h₀ L h [] := News.nil
def AddPair (h : Heap) (B x : Int) (l1 l2 : Addr) (v1 v2 : List Value) (n1 n2 : List Int) : Prop :=
  (h.IsList l1 v1.toArray ∧ IntsAre v1 n1 ∧ h.IsList l2 v2.toArray ∧ IntsAre v2 n2) ∧ n1.length ≤ 60 ∧ n2.length ≤ n1.length ∧ Can B n1 ∧ Can B n2 ∧ x = val B n1 + val B n2
def Swapped (h₀ : Heap) (L : Addr) (m : Str → Option Value) (s : Shared) (B x : Int) (fl : Flow) (s' : Shared) : Prop :=
  fl = .next ∧ ∃ (l1 l2 : Addr) (v1 v2 : List Value) (n1 n2 : List Int) (h' : Heap) (tk : Nat), s' = { s with heap := h', toks := tk } ∧ AddPair h₀ B x l1 l2 v1 v2 n1 n2 ∧
    Fr h₀ L h' (fun y => if y = Str.ofString "a" then some (.ref l1) else if y = Str.ofString "b" then some (.ref l2) else m y)
theorem swap_cut {prog : Program} {w : World} {A : Around} {E : Value → Shared → Prop} {s : Shared} {h₀ : Heap} {L : Addr} {m : Str → Option Value} {t : Sem Flow} {Q : Flow → Shared → Prop} (B x : Int) (_F : Fr h₀ L s.heap m)
    (h1 : wpAny (model prog w) A t (Swapped h₀ L m s B x) E s)
    (h2 : ∀ (l1 l2 : Addr) (v1 v2 : List Value) (n1 n2 : List Int) (h' : Heap) (tk : Nat), AddPair h₀ B x l1 l2 v1 v2 n1 n2 →
      Fr h₀ L h' (fun y => if y = Str.ofString "a" then some (.ref l1) else if y = Str.ofString "b" then some (.ref l2) else m y) → Q .next { s with heap := h', toks := tk }) :
    wpAny (model prog w) A t Q E s := by
  refine wpAny_mono h1 (fun fl s' p => ?_) fun _ _ e => e
  obtain ⟨rfl, l1, l2, v1, v2, n1, n2, h', tk, rfl, a, F⟩ := p
  exact h2 l1 l2 v1 v2 n1 n2 h' tk a F
theorem put_step {m m₂ : Str → Option Value} {x : Str} {v : Value} (q : m = m₂) (e : m₂ x = some v) : (fun y => if y = x then some v else m y) = m₂ := by
  subst q
  funext y
  by_cases c : y = x
  · rw [if_pos c, c, e]
  · rw [if_neg c]
theorem same_map {h₀ h : Heap} {L : Addr} {m : Str → Option Value} {v1 v2 : Value} (F : Fr h₀ L h m) (e1 : m (Str.ofString "a") = some v1) (e2 : m (Str.ofString "b") = some v2) :
    Fr h₀ L h (fun y => if y = Str.ofString "a" then some v1 else if y = Str.ofString "b" then some v2 else m y) := by
  rw [put_step (put_step rfl e2) e1]
  exact F
inductive GoOn : Prop
  | mk
local macro_rules | `(tactic| walk_at "exec If") => `(tactic| (k_here; (fail_if_success (have kg9 : GoOn := by assumption)); with_reducible refine Rest.mk ?_))
set_option maxHeartbeats 1000000 in
theorem add_says (w : World) (mean : ExcName → Option Value) (mg mb : Str → Option Value) (h : Heap) (la lb : Addr) (vs us : List Value) (ns ms : List Int) (W : Int) (u : Tok) (hla : h.IsList la vs.toArray) (hia : IntsAre vs ns) (hlb : h.IsList lb us.toArray) (hib : IntsAre us ms)
    (hna : ns.length ≤ 60) (hnb : ms.length ≤ 60) (hW : 3 ≤ W) (hW2 : W ≤ 8) (ca : Can (2 ^ W.toNat) ns) (cb : Can (2 ^ W.toNat) ms) :
    Says w mean mg mb 86 [.ref la, .ref lb, .int W u] 2 8 h (PList h fun rs => Can (2 ^ W.toNat) rs ∧ val (2 ^ W.toNat) rs = val (2 ^ W.toNat) ns + val (2 ^ W.toNat) ms) := by
  unfold Says
  k_fill
  intro dp un gd env outer A₀ base h₀ L m s Q E hsh B F X T hf hk hdp hun ret
  subst hsh
  have hB := two_pow_ge hW
  refine wpAny_call ?_
  refine' enter_pure (binds := [(Str.ofString "a", .ref la), (Str.ofString "b", .ref lb), (Str.ofString "w", .int W u)]) ?k1 ?k2 ?k3 ?k5 ?kA ?kF ?kK ?k6 ?k7 ?k8 ?k9 ?kB ?_ ?c2 ?c3 ?c4 ?c5
  walk_at "m enter"
  k_with "measure" => omega
  k_with "pyIter ref" => refine Rest.mk ?_
  walk_at "m steps"
  refine Rest.out ?_
  rename Fr _ _ _ _ => F1
  refine swap_cut (2 ^ W.toNat) (val (2 ^ W.toNat) ns + val (2 ^ W.toNat) ms) F1 ?_ ?_
  · have kg := GoOn.mk
    walk_at "m steps"
    · exact ⟨rfl, lb, la, us, vs, ms, ns, _, _, rfl, ⟨⟨hlb, hib, hla, hia⟩, hnb, by omega, cb, ca, Int.add_comm _ _⟩, by assumption⟩
    · exact ⟨rfl, la, lb, vs, us, ns, ms, _, _, rfl, ⟨⟨hla, hia, hlb, hib⟩, hna, by omega, ca, cb, rfl⟩, same_map (by assumption) (by with_unfolding_all rfl) (by with_unfolding_all rfl)⟩
  · clear F1 hla hia hlb hib hna hnb ca cb
    intro l1 l2 vs' us' ns' ms' h' tk hp F2
    obtain ⟨⟨hla, hia, hlb, hib⟩, hna, hle, ca, cb, hx⟩ := hp
    rw [hx] at ret
    clear hx
    have hnb : ms'.length ≤ 60 := by omega
    have kg := GoOn.mk
    have N2 : News _ _ _ [] := no_newsA F2
    (try dsimp only)
    (try k_unmd)
    (try k_fold)
    k_with "state" => first
      | exact ⟨rfl, by omega, by omega, AddInv.start⟩
      | exact AddInv.turn1 hB ca.lim cb.lim (by assumption) (by assumption) (by assumption) (by assumption)
      | exact AddInv.turn2 hB ca.lim cb.lim (by assumption) (by assumption) (by assumption) (by assumption)
      | exact AddInv.mid (by rw [rangeKs_length]; omega) (by assumption) (by assumption) (by assumption)
    walk_at "m steps"
    refine Rest.out ?_
    k_state (fun pre carry found => found.length = pre.length ∧ 0 ≤ carry ∧ carry ≤ 1 ∧ AddInv (2 ^ W.toNat) ns' ms' pre.length carry found) "carry" "found"
    · walk_at "m steps"
    · walk_at "m steps"
      refine Rest.out ?_
      k_state (fun pre carry found => found.length = ms'.length + pre.length ∧ 0 ≤ carry ∧ carry ≤ 1 ∧ AddInv (2 ^ W.toNat) ns' ms' (ms'.length + pre.length) carry found) "carry" "found"
      · walk_at "m steps"
      · walk_at "m steps"
        · refine ret _ _ _ (Fr.keep (by assumption)) (list_end (by assumption) (by repeat (first | exact .head _ | refine .tail _ ?_)) (by first | assumption | exact ints_concat (by assumption) | exact IntsAre.append (by assumption) (.cons _ _ .nil)) ?_)
          exact AddInv.out1 hB (by assumption) (by omega) (by rw [rangeKs_length]; omega) (by assumption) (by assumption)
        · refine ret _ _ _ (Fr.keep (by assumption)) (list_end (by assumption) (by repeat (first | exact .head _ | refine .tail _ ?_)) (by first | assumption | exact ints_concat (by assumption) | exact IntsAre.append (by assumption) (.cons _ _ .nil)) ?_)
          exact AddInv.out0 hB ca cb (by assumption) (by omega) (by rw [rangeKs_length]; omega) (by assumption) (by assumption)

end Mine
end FAdd
section FCompare
namespace Mine
theorem fresh_FCompare : True := by
  k_with_none
  w_top off
  trivial
open PySem PySem.W PySem.Spec PySem.Calls PyProof.Rows
local macro_rules | `(tactic| walk_at "m enter") => `(tactic| (
  (case kA => exact rfl); (case kF => assumption); (case kK => assumption); (case k1 => assumption); (case k2 => assumption); (case k3 => assumption); (case k5 => assumption); (case k6 => k_is); (case k7 => k_is); (case k8 => ((try dsimp only [around]); omega)); (case k9 => exact BindsTo.of_eq rfl); (case c5 => decide); (case kB => exact locs rfl); (case c2 => exact rfl); (case c3 => exact rfl); (case c4 => exact rfl); k_whole; intro L' h' F' N' B' X' T'; (try dsimp only); (try k_fold)))
local macro_rules | `(tactic| size_fits) => `(tactic| (refine fits_ints (by assumption) ?_; first | omega | fail "m: no length"))
local macro_rules | `(tactic| walk_at "exec While Compare cons nil") => `(tactic| (k_here; with_reducible refine Rest.mk ?_))
local macro_rules | `(tactic| walk_at "m steps") => `(tactic| repeat' (first | (k_unfold; (try dsimp only)) | walk1 | (dsimp only; first | (k_unfold; (try dsimp only)) | walk1) | (k_unmd; k_unfold; (try dsimp only))))
local macro_rules | `(tactic| kst_facts) => `(tactic| ((try dsimp only); first | exact IntsAre.nil | exact True.intro | assumption | exact IntsAre.append (by assumption) (.cons _ _ .nil)))
local macro_rules | `(tactic| walk_at "exec While BoolOp cons nil") => `(tactic| (k_here; with_reducible refine Rest.mk ?_))
local macro_rules | `(tactic| walk_at "call ref") => `(tactic| (k_here; with_reducible refine Rest.mk ?_))
local macro_rules | `(tactic| walk_at "m ctx") => `(tactic| ((case kB => assumption); (case kF => assumption); (case kN => assumption); (case kX => assumption); (case kT => assumption); (case hf => exact rfl); (case hk => exact rfl); (case hd => ((try dsimp only [around, Around.deeper]); omega)); (case hu => ((try dsimp only [around, Around.deeper]); omega))))
local macro_rules | `(tactic| walk_at "exec For Tuple Call cons nil") => `(tactic| (k_here; with_reducible refine Rest.mk ?_))
local macro_rules | `(tactic| walk_at "call type:enumerate") => `(tactic| (k_here; with_reducible refine Rest.mk ?_))

theorem val_above {B : Int} {ns ms : List Int} {k : Nat} (h : ∀ i : Nat, k ≤ i → ns.getD i 0 = ms.getD i 0) : ∀ j : Nat, val B (ns.take (k + j)) - val B (ms.take (k + j)) = val B (ns.take k) - val B (ms.take k)
  | 0 => rfl
  | j + 1 => by
    rw [← Nat.add_assoc, val_take' (k + j), val_take' (k + j), h _ (by omega)]
    have := val_above (B := B) h j
    omega
theorem val_lt_top {B : Int} (hB : 2 ≤ B) {ns ms : List Int} {k : Nat} (la : Lim B ns) (lb : Lim B ms) (hl : ns.length = ms.length) (hk : k < ns.length) (h : ∀ i : Nat, k + 1 ≤ i → ns.getD i 0 = ms.getD i 0) (hlt : ns.getD k 0 < ms.getD k 0) : val B ns < val B ms := by
  have h1 := val_above (B := B) h (ns.length - (k + 1))
  rw [show k + 1 + (ns.length - (k + 1)) = ns.length by omega, take_all (Nat.le_refl _), take_all (by omega), val_take', val_take'] at h1
  have h2 := val_lt hB (la.take k)
  have h3 := val_nonneg hB (lb.take k)
  have h4 : (ns.take k).length = k := by rw [List.length_take]; omega
  rw [h4] at h2
  have h5 := Int.mul_le_mul_of_nonneg_left (show ns.getD k 0 + 1 ≤ ms.getD k 0 by omega) (Int.le_of_lt (ipow_pos hB k))
  rw [Int.mul_add, Int.mul_one] at h5
  omega
theorem val_eq_all {B : Int} {ns ms : List Int} (hl : ns.length = ms.length) (h : ∀ i : Nat, ns.getD i 0 = ms.getD i 0) : val B ns = val B ms := by
  have h1 := val_above (B := B) (k := 0) (fun i _ => h i) ns.length
  rw [Nat.zero_add, take_all (Nat.le_refl _), take_all (by omega)] at h1
  simp only [List.take_zero] at h1
  omega
/-- what a compare says -/
def Cmp (B : Int) (ns ms : List Int) (r : Int) : Prop := (r < 0 → val B ns < val B ms) ∧ (0 ≤ r → val B ms ≤ val B ns)
theorem Cmp.lt {B : Int} {ns ms : List Int} (h : val B ns < val B ms) : Cmp B ns ms (-1) := ⟨fun _ => h, fun h => by omega⟩
theorem Cmp.ge {B : Int} {ns ms : List Int} {r : Int} (hr : 0 ≤ r) (h : val B ms ≤ val B ns) : Cmp B ns ms r := ⟨fun h => by omega, fun _ => h⟩
def Same (ns ms : List Int) (k : Nat) : Prop := ∀ i : Nat, (ns.length : Int) - k ≤ i → ns.getD i 0 = ms.getD i 0
theorem Same.start {ns ms : List Int} (hl : ns.length = ms.length) : Same ns ms 0 := fun i hi => by rw [getD_out (by omega), getD_out (by omega)]
theorem Same.step {ns ms : List Int} {pre : List Int} {n : Int} (h : Same ns ms pre.length) (hn : n = (ns.length : Int) - 1 - (pre.length : Int)) (hlt : 0 ≤ n) (e : ns.getD n.toNat 0 = ms.getD n.toNat 0) : Same ns ms (pre ++ [n]).length := by
  intro i hi
  rw [List.length_append, List.length_singleton] at hi
  rcases Int.lt_or_le ((ns.length : Int) - pre.length - 1) i with q | q
  · exact h i (by omega)
  · have : i = n.toNat := by omega
    rw [this]; exact e
theorem Same.lt {B : Int} (hB : 2 ≤ B) {ns ms : List Int} {j : Nat} {n : Int} (la : Lim B ns) (lb : Lim B ms) (hl : ns.length = ms.length) (h : Same ns ms j) (hn : n = (ns.length : Int) - 1 - (j : Int)) (h0 : 0 ≤ n) (e : ns.getD n.toNat 0 < ms.getD n.toNat 0) : val B ns < val B ms :=
  val_lt_top hB la lb hl (by omega) (fun i hi => h i (by omega)) e
theorem Same.gt {B : Int} (hB : 2 ≤ B) {ns ms : List Int} {j : Nat} {n : Int} (la : Lim B ns) (lb : Lim B ms) (hl : ns.length = ms.length) (h : Same ns ms j) (hn : n = (ns.length : Int) - 1 - (j : Int)) (h0 : 0 ≤ n) (e : ms.getD n.toNat 0 < ns.getD n.toNat 0) : val B ms < val B ns :=
  val_lt_top hB lb la hl.symm (by omega) (fun i hi => (h i (by omega)).symm) e
theorem Same.all {B : Int} {ns ms : List Int} {r : List Int} (hl : ns.length = ms.length) (h : Same ns ms r.length) (hr : r.length = ns.length) : val B ns = val B ms :=
  val_eq_all hl fun i => h i (by omega)
set_option maxHeartbeats 1000000 in
theorem compare_says (w : World) (mean : ExcName → Option Value) (mg mb : Str → Option Value) (h : Heap) (la lb : Addr) (vs us : List Value) (ns ms : List Int) (B₀ : Int) (hla : h.IsList la vs.toArray) (hia : IntsAre vs ns) (hlb : h.IsList lb us.toArray) (hib : IntsAre us ms)
    (hna : ns.length ≤ 60) (hnb : ms.length ≤ 60) (hB : 2 ≤ B₀) (ca : Can B₀ ns) (cb : Can B₀ ms) :
    Says w mean mg mb 79 [.ref la, .ref lb] 2 8 h (PInt fun r => Cmp B₀ ns ms r) := by
  unfold Says
  k_fill
  intro dp un gd env outer A₀ base h₀ L m s Q E hsh B F X T hf hk hdp hun ret
  subst hsh
  refine wpAny_call ?_
  refine' enter_pure (binds := [(Str.ofString "a", .ref la), (Str.ofString "b", .ref lb)]) ?k1 ?k2 ?k3 ?k5 ?kA ?kF ?kK ?k6 ?k7 ?k8 ?k9 ?kB ?_ ?c2 ?c3 ?c4 ?c5
  walk_at "m enter"
  k_with "state" => first | exact Same.step (by assumption) (by assumption) (by omega) (by omega) | (trace_state; fail)
  k_with "measure" => omega
  k_with "pyIter ref" => refine Rest.mk ?_
  walk_at "m steps"
  · refine ret _ _ _ (Fr.keep (by assumption)) ⟨_, _, rfl, Cmp.lt (Can.lt_of_len hB ca.lim cb (by omega))⟩
  · refine ret _ _ _ (Fr.keep (by assumption)) ⟨_, _, rfl, Cmp.ge (by omega) (Int.le_of_lt (Can.lt_of_len hB cb.lim ca (by omega)))⟩
  refine Rest.out ?_
  rename Fr _ _ _ _ => F1
  rename News _ _ _ _ => N1
  rename IsRange _ _ _ _ _ _ _ _ => R1
  have hl : ns.length = ms.length := by omega
  refine kst_rangeD (σ := Unit) (fun _ => []) (fun _ => []) (fun _ => True) [] (fun pre _ => Same ns ms pre.length) () (by rfl) R1 (small_down (by omega) (by omega) (by omega) (by omega)) (rangeSize_downNat _ _) F1 N1 trivial (fun _ h => nomatch h) (Same.start hl) ?_ ?_
  · clear F1 N1
    intro c pre kN kT kU kH kTk kOwn kEq kLt kOff kFacts kInv kFr kNews
    k_fold
    walk_at "m steps"
    · refine ret _ _ _ (Fr.keep (by assumption)) ⟨_, _, rfl, Cmp.lt (Same.lt hB ca.lim cb.lim hl kInv kEq (by omega) (by omega))⟩
    · refine ret _ _ _ (Fr.keep (by assumption)) ⟨_, _, rfl, Cmp.ge (by omega) (Int.le_of_lt (Same.gt hB ca.lim cb.lim hl kInv kEq (by omega) (by omega)))⟩
    · exact kst_end () kFr kNews (fun p hp => nomatch hp) (fun p hp => hp) rfl trivial (fun _ h => nomatch h) (fun z h1 _ _ => by simp [h1, kstB]) (Same.step kInv kEq (by omega) (by assumption))
  · clear F1 N1
    intro c kU kH kTk kFacts kInv kFr kNews
    walk_at "m steps"
    refine ret _ _ _ (Fr.keep (by assumption)) ⟨_, _, rfl, Cmp.ge (by omega) (Int.le_of_eq (Same.all hl kInv (by rw [downKs_length]; omega)).symm)⟩

end Mine
end FCompare
section FSub
namespace Mine
theorem fresh_FSub : True := by
  k_with_none
  w_top off
  trivial
open PySem PySem.W PySem.Spec PySem.Calls PyProof.Rows
local macro_rules | `(tactic| walk_at "m enter") => `(tactic| (
  (case kA => exact rfl); (case kF => assumption); (case kK => assumption); (case k1 => assumption); (case k2 => assumption); (case k3 => assumption); (case k5 => assumption); (case k6 => k_is); (case k7 => k_is); (case k8 => ((try dsimp only [around]); omega)); (case k9 => exact BindsTo.of_eq rfl); (case c5 => decide); (case kB => exact locs rfl); (case c2 => exact rfl); (case c3 => exact rfl); (case c4 => exact rfl); k_whole; intro L' h' F' N' B' X' T'; (try dsimp only); (try k_fold)))
local macro_rules | `(tactic| size_fits) => `(tactic| (refine fits_ints (by assumption) ?_; first | omega | fail "m: no length"))
local macro_rules | `(tactic| walk_at "exec While Compare cons nil") => `(tactic| (k_here; with_reducible refine Rest.mk ?_))
local macro_rules | `(tactic| walk_at "m steps") => `(tactic| repeat' (first | (k_unfold; (try dsimp only)) | walk1 | (dsimp only; first | (k_unfold; (try dsimp only)) | walk1) | (k_unmd; k_unfold; (try dsimp only))))
local macro_rules | `(tactic| kst_facts) => `(tactic| ((try dsimp only); first | exact IntsAre.nil | exact True.intro | assumption | exact IntsAre.append (by assumption) (.cons _ _ .nil)))
local macro_rules | `(tactic| walk_at "exec While BoolOp cons nil") => `(tactic| (k_here; with_reducible refine Rest.mk ?_))
local macro_rules | `(tactic| walk_at "call ref") => `(tactic| (k_here; with_reducible refine Rest.mk ?_))
local macro_rules | `(tactic| walk_at "m ctx") => `(tactic| ((case kB => assumption); (case kF => assumption); (case kN => assumption); (case kX => assumption); (case kT => assumption); (case hf => exact rfl); (case hk => exact rfl); (case hd => ((try dsimp only [around, Around.deeper]); omega)); (case hu => ((try dsimp only [around, Around.deeper]); omega))))
local macro_rules | `(tactic| walk_at "exec For Tuple Call cons nil") => `(tactic| (k_here; with_reducible refine Rest.mk ?_))
local macro_rules | `(tactic| walk_at "call type:enumerate") => `(tactic| (k_here; with_reducible refine Rest.mk ?_))

/-- k limbs of the difference stand in f, c is borrowed -/
def SubInv (B : Int) (ns ms : List Int) (k : Nat) (c : Int) (f : List Int) : Prop := Lim B f ∧ f.length = k ∧ val B f = val B (ns.take k) - val B (ms.take k) + B ^ k * c
theorem SubInv.start {B : Int} {ns ms : List Int} : SubInv B ns ms 0 0 [] := ⟨.nil, rfl, by simp [val]⟩
theorem SubInv.step {B : Int} {k : Nat} {c d y : Int} {ns ms f : List Int} (I : SubInv B ns ms k c f) (h0 : 0 ≤ y) (h1 : y < B) (e : y = ns.getD k 0 - c - ms.getD k 0 + B * d) : SubInv B ns ms (k + 1) d (f ++ [y]) := by
  obtain ⟨hl, hk, hv⟩ := I
  refine ⟨hl.snoc h0 h1, by simp [hk], ?_⟩
  rw [val_snoc, hv, hk, e, val_take', val_take', Int.pow_succ, Int.mul_add, Int.mul_sub, Int.mul_sub, ← Int.mul_assoc]
  omega
theorem SubInv.neg {K : Nat} {n c y : Int} {ns ms f pre : List Int} (hB : 8 ≤ (2 : Int) ^ K) (la : Lim (2 ^ K) ns) (lb : Lim (2 ^ K) ms) (hn : n = 0 + (pre.length : Int)) (hy : y = ms.getD n.toNat 0) (h0 : 0 ≤ c) (h1 : c ≤ 1) (I : SubInv (2 ^ K) ns ms pre.length c f)
    (hx : ns.getD n.toNat 0 - c - y < 0) : (f ++ [ns.getD n.toNat 0 - c - y + 1 * 2 ^ K]).length = (pre ++ [n]).length ∧ (0 : Int) ≤ 1 ∧ (1 : Int) ≤ 1 ∧ SubInv (2 ^ K) ns ms (pre ++ [n]).length 1 (f ++ [ns.getD n.toNat 0 - c - y + 1 * 2 ^ K]) := by
  have e : n.toNat = pre.length := by omega
  rw [e] at hy hx ⊢
  have a0 := la.getD (by omega) pre.length
  have b0 := lb.getD (by omega) pre.length
  refine ⟨by simp [I.2.1], by omega, by omega, ?_⟩
  rw [List.length_append, List.length_singleton]
  exact I.step (by omega) (by omega) (by omega)
theorem SubInv.pos {K : Nat} {n c y : Int} {ns ms f pre : List Int} (hB : 8 ≤ (2 : Int) ^ K) (la : Lim (2 ^ K) ns) (lb : Lim (2 ^ K) ms) (hn : n = 0 + (pre.length : Int)) (hy : y = ms.getD n.toNat 0) (h0 : 0 ≤ c) (h1 : c ≤ 1) (I : SubInv (2 ^ K) ns ms pre.length c f)
    (hx : ¬ns.getD n.toNat 0 - c - y < 0) : (f ++ [ns.getD n.toNat 0 - c - y]).length = (pre ++ [n]).length ∧ (0 : Int) ≤ 0 ∧ (0 : Int) ≤ 1 ∧ SubInv (2 ^ K) ns ms (pre ++ [n]).length 0 (f ++ [ns.getD n.toNat 0 - c - y]) := by
  have e : n.toNat = pre.length := by omega
  rw [e] at hy hx ⊢
  have a0 := la.getD (by omega) pre.length
  have b0 := lb.getD (by omega) pre.length
  refine ⟨by simp [I.2.1], by omega, by omega, ?_⟩
  rw [List.length_append, List.length_singleton]
  exact I.step (by omega) (by omega) (by omega)
theorem SubInv.all {B c : Int} {k : Nat} {ns ms f : List Int} (hB : 8 ≤ B) (ca : Can B ns) (cb : Can B ms) (hge : val B ms ≤ val B ns) (h0 : 0 ≤ c) (I : SubInv B ns ms k c f) (hk : k = ns.length) : val B f = val B ns - val B ms := by
  have hl : ms.length ≤ ns.length := by
    rcases Nat.lt_or_ge ns.length ms.length with q | q
    · have := Can.lt_of_len (show 2 ≤ B by omega) ca.lim cb q
      omega
    · exact q
  have hv := I.2.2
  rw [hk, take_all (Nat.le_refl _), take_all hl] at hv
  have h1 := val_lt (show 2 ≤ B by omega) I.1
  rw [I.2.1, hk] at h1
  rcases Int.lt_or_le 0 c with q | q
  · have h2 := Int.mul_le_mul_of_nonneg_left (show 1 ≤ c by omega) (Int.le_of_lt (ipow_pos (show 2 ≤ B by omega) ns.length))
    omega
  · have : c = 0 := by omega
    rw [this, Int.mul_zero] at hv
    omega
set_option maxHeartbeats 1000000 in
theorem sub_says (w : World) (mean : ExcName → Option Value) (mg mb : Str → Option Value) (h : Heap) (la lb : Addr) (vs us : List Value) (ns ms : List Int) (W : Int) (u : Tok) (hla : h.IsList la vs.toArray) (hia : IntsAre vs ns) (hlb : h.IsList lb us.toArray) (hib : IntsAre us ms)
    (hna : ns.length ≤ 60) (hnb : ms.length ≤ 60) (hW : 3 ≤ W) (hW2 : W ≤ 8) (ca : Can (2 ^ W.toNat) ns) (cb : Can (2 ^ W.toNat) ms) (hge : val (2 ^ W.toNat) ms ≤ val (2 ^ W.toNat) ns) :
    Says w mean mg mb 93 [.ref la, .ref lb, .int W u] 3 16 h (PList h fun rs => Can (2 ^ W.toNat) rs ∧ val (2 ^ W.toNat) rs = val (2 ^ W.toNat) ns - val (2 ^ W.toNat) ms) := by
  unfold Says
  k_fill
  intro dp un gd env outer A₀ base h₀ L m s Q E hsh B F X T hf hk hdp hun ret
  subst hsh
  have hB := two_pow_ge hW
  refine wpAny_call ?_
  refine' enter_pure (binds := [(Str.ofString "a", .ref la), (Str.ofString "b", .ref lb), (Str.ofString "w", .int W u)]) ?k1 ?k2 ?k3 ?k5 ?kA ?kF ?kK ?k6 ?k7 ?k8 ?k9 ?kB ?_ ?c2 ?c3 ?c4 ?c5
  walk_at "m enter"
  k_with "state" => first
    | exact ⟨rfl, by omega, by omega, SubInv.start⟩
    | exact SubInv.neg hB ca.lim cb.lim (by assumption) (by first | rfl | exact (getD_out (by omega)).symm) (by assumption) (by assumption) (by assumption) (by assumption)
    | exact SubInv.pos hB ca.lim cb.lim (by assumption) (by first | rfl | exact (getD_out (by omega)).symm) (by assumption) (by assumption) (by assumption) (by assumption)
  k_with "pyIter ref" => refine Rest.mk ?_
  walk_at "m steps"
  refine Rest.out ?_
  refine' Says.useInt (compare_says w mean mg mb _ la lb vs us ns ms (2 ^ W.toNat) (by is_list) hia (by is_list) hib hna hnb (by omega) ca cb) ?kB ?kF ?kN ?kX ?kT ?hf ?hk ?hd ?hu ?_
  walk_at "m ctx"
  intro cK cT cH cTk cF cN cP
  (try dsimp only)
  (try k_fold)
  have hc0 : 0 ≤ cK := by rcases Int.lt_or_le cK 0 with q | q; exact absurd (cP.1 q) (by omega); exact q
  walk_at "m steps"
  refine Rest.out ?_
  k_state (fun pre borrow found => found.length = pre.length ∧ 0 ≤ borrow ∧ borrow ≤ 1 ∧ SubInv (2 ^ W.toNat) ns ms pre.length borrow found) "borrow" "found"
  · walk_at "m steps"
  · walk_at "m steps"
    rename (SubInv _ _ _ _ _ _) => hI
    rename ((0 : Int) ≤ _) => hb0
    refine Rest.out ?_
    refine' Says.useList (normal_says w mean mg mb _ _ _ _ (by is_list) (by assumption) (by rw [hI.2.1, rangeKs_length]; omega)) ?kB ?kF ?kN ?kX ?kT ?hf ?hk ?hd ?hu ?_
    walk_at "m ctx"
    intro cL cU cC cNs cH cTk cF cN cD cI cP
    (try dsimp only)
    (try k_fold)
    walk_at "m steps"
    refine ret _ _ _ (Fr.keep (by assumption)) (list_end (by assumption) (by repeat (first | exact .head _ | refine .tail _ ?_)) (by first | assumption | exact ints_concat (by assumption) | exact IntsAre.append (by assumption) (.cons _ _ .nil)) ?_)
    have hv := SubInv.all hB ca cb hge (by assumption) hI (by rw [rangeKs_length]; omega)
    rw [← hv]
    exact cP _ (by omega) hI.1

end Mine
end FSub
section FMul
namespace Mine
theorem fresh_FMul : True := by
  k_with_none
  w_top off
  trivial
open PySem PySem.W PySem.Spec PySem.Calls PyProof.Rows
local macro_rules | `(tactic| walk_at "m enter") => `(tactic| (
  (case kA => exact rfl); (case kF => assumption); (case kK => assumption); (case k1 => assumption); (case k2 => assumption); (case k3 => assumption); (case k5 => assumption); (case k6 => k_is); (case k7 => k_is); (case k8 => ((try dsimp only [around]); omega)); (case k9 => exact BindsTo.of_eq rfl); (case c5 => decide); (case kB => exact locs rfl); (case c2 => exact rfl); (case c3 => exact rfl); (case c4 => exact rfl); k_whole; intro L' h' F' N' B' X' T'; (try dsimp only); (try k_fold)))
local macro_rules | `(tactic| size_fits) => `(tactic| (refine fits_ints (by assumption) ?_; first | omega | fail "m: no length"))
local macro_rules | `(tactic| walk_at "exec While Compare cons nil") => `(tactic| (k_here; with_reducible refine Rest.mk ?_))
local macro_rules | `(tactic| walk_at "m steps") => `(tactic| repeat' (first | (k_unfold; (try dsimp only)) | walk1 | (dsimp only; first | (k_unfold; (try dsimp only)) | walk1) | (k_unmd; k_unfold; (try dsimp only))))
local macro_rules | `(tactic| kst_facts) => `(tactic| ((try dsimp only); first | exact IntsAre.nil | exact True.intro | assumption | exact IntsAre.append (by assumption) (.cons _ _ .nil)))
local macro_rules | `(tactic| walk_at "exec While BoolOp cons nil") => `(tactic| (k_here; with_reducible refine Rest.mk ?_))
local macro_rules | `(tactic| walk_at "call ref") => `(tactic| (k_here; with_reducible refine Rest.mk ?_))
local macro_rules | `(tactic| walk_at "m ctx") => `(tactic| ((case kB => assumption); (case kF => assumption); (case kN => assumption); (case kX => assumption); (case kT => assumption); (case hf => exact rfl); (case hk => exact rfl); (case hd => ((try dsimp only [around, Around.deeper]); omega)); (case hu => ((try dsimp only [around, Around.deeper]); omega))))
local macro_rules | `(tactic| walk_at "exec For Tuple Call cons nil") => `(tactic| (k_here; with_reducible refine Rest.mk ?_))
local macro_rules | `(tactic| walk_at "call type:enumerate") => `(tactic| (k_here; with_reducible refine Rest.mk ?_))

theorem news_two {h₀ h : Heap} {L : Addr} {a b : Addr × Obj} {r : List (Addr × Obj)} (N : News h₀ L h (a :: b :: r)) : News h₀ L h [b] := fun p hp => N p (by rw [List.mem_singleton.mp hp]; simp)
def MulOut (B : Int) (ns ms : List Int) (i : Nat) (f : List Int) : Prop := Lim B f ∧ f.length = ns.length + ms.length ∧ val B f = val B (ns.take i) * val B ms ∧ ∀ j : Nat, i + ms.length ≤ j → f.getD j 0 = 0
def MulIn (B V : Int) (ns ms : List Int) (i : Nat) (x : Int) (j : Nat) (c : Int) (f : List Int) : Prop :=
  Lim B f ∧ val B f + B ^ (i + j) * c = V + B ^ i * (x * val B (ms.take j)) ∧ ∀ j : Nat, i + ms.length ≤ j → f.getD j 0 = 0
theorem ownOff_two {own own' : List (Addr × Obj)} {D : Addr} {l : List Addr} (h : OwnOff own [D]) (h' : OwnOff own' (D :: l)) : OwnOff (own ++ own') [D] := fun p hp b hb => by
  rw [List.mem_singleton.mp hb]
  exact (List.mem_append.mp hp).elim (fun q => h p q D (.head _)) fun q => h' p q D (.head _)
theorem sub_head {α : Type} (a : α) (l r : List α) : ∀ p ∈ a :: l, p ∈ a :: (l ++ r) := fun _ hp => (List.mem_cons.mp hp).elim (fun q => q ▸ .head _) fun q => .tail _ (List.mem_append_left _ q)
theorem val_set {B v : Int} : ∀ {l : List Int} {i : Nat}, i < l.length → val B (l.set i v) = val B l + B ^ i * (v - l.getD i 0)
  | [], _, h => by simp at h
  | x :: r, 0, _ => by
    simp only [List.set_cons_zero, val_cons, List.getD_cons_zero, Int.pow_zero, Int.one_mul]
    omega
  | x :: r, i + 1, h => by
    simp only [List.set_cons_succ, val_cons, List.getD_cons_succ]
    rw [val_set (by simpa using h), Int.mul_add, ← Int.mul_assoc, Int.pow_succ, Int.mul_comm (B ^ i) B]
    omega
theorem Lim.set {B v : Int} {l : List Int} (h : Lim B l) (h0 : 0 ≤ v) (h1 : v < B) (i : Nat) : Lim B (l.set i v) := fun x hx => (List.mem_or_eq_of_mem_set hx).elim (h x) fun e => e ▸ ⟨h0, h1⟩
theorem getD_set_ne {l : List Int} {i j : Nat} {v : Int} (h : i ≠ j) : (l.set i v).getD j 0 = l.getD j 0 := by
  rw [List.getD_eq_getElem?_getD, List.getElem?_set_ne h, ← List.getD_eq_getElem?_getD]
theorem flatten_zero : ∀ k : Nat, (List.replicate k [(0 : Int)]).flatten = List.replicate k 0
  | 0 => rfl
  | k + 1 => by rw [List.replicate_succ, List.flatten_cons, flatten_zero k, List.replicate_succ]; rfl
theorem val_zeros {B : Int} : ∀ k : Nat, val B (List.replicate k 0) = 0
  | 0 => rfl
  | k + 1 => by rw [List.replicate_succ, val_cons, val_zeros k]; omega
theorem lim_zeros {B : Int} (hB : 0 < B) (k : Nat) : Lim B (List.replicate k 0) := fun x hx => by rw [List.eq_of_mem_replicate hx]; omega
theorem getD_zeros (k j : Nat) : (List.replicate k (0 : Int)).getD j 0 = 0 := by
  rw [List.getD_eq_getElem?_getD, List.getElem?_replicate]; split <;> rfl
theorem MulOut.start {B : Int} {ns ms : List Int} (hB : 0 < B) {k : Nat} (hk : k = ns.length + ms.length) : (List.replicate k [(0 : Int)]).flatten.length = ns.length + ms.length ∧ MulOut B ns ms ([] : List Int).length (List.replicate k [(0 : Int)]).flatten := by
  rw [flatten_zero]
  have e : (List.replicate k (0 : Int)).length = ns.length + ms.length := by rw [List.length_replicate, hk]
  exact ⟨e, lim_zeros hB k, e, by simp [val_zeros, val], fun j _ => getD_zeros k j⟩
theorem MulIn.start {B x : Int} {ns ms f : List Int} {i : Nat} (h : MulOut B ns ms i f) : MulIn B (val B f) ns ms i x ([] : List Int).length 0 f :=
  ⟨h.1, by simp [val], h.2.2.2⟩
theorem mul_carry {B c a x y : Int} (hB : 8 ≤ B) (c0 : 0 ≤ c) (c1 : c < B) (a0 : 0 ≤ a) (a1 : a < B) (x0 : 0 ≤ x) (x1 : x < B) (y0 : 0 ≤ y) (y1 : y < B) : 0 ≤ c + (a + x * y) ∧ 0 ≤ (c + (a + x * y)) / B ∧ (c + (a + x * y)) / B < B := by
  have h1 : x * y ≤ (B - 1) * (B - 1) := Int.mul_le_mul (by omega) (by omega) y0 (by omega)
  have h2 : 0 ≤ x * y := Int.mul_nonneg x0 y0
  have h3 : (B - 1) * (B - 1) = B * B - B - B + 1 := by rw [Int.sub_mul, Int.mul_sub, Int.mul_one, Int.one_mul]; omega
  refine ⟨by omega, Int.ediv_nonneg (by omega) (by omega), ?_⟩
  exact Int.ediv_lt_of_lt_mul (by omega) (by omega)
theorem MulIn.turn {K i j : Nat} {V c x y : Int} {ns ms f : List Int} (hB : 8 ≤ (2 : Int) ^ K) (hf : f.length = ns.length + ms.length) (hij : i + j < f.length) (x0 : 0 ≤ x) (x1 : x < 2 ^ K) (lb : Lim (2 ^ K) ms) (hy : y = ms.getD j 0) (hj : j < ms.length) (c0 : 0 ≤ c) (c1 : c < 2 ^ K) (I : MulIn (2 ^ K) V ns ms i x j c f) :
    0 ≤ (c + (f.getD (i + j) 0 + x * y)).fdiv (2 ^ K) ∧ (c + (f.getD (i + j) 0 + x * y)).fdiv (2 ^ K) < 2 ^ K ∧
      MulIn (2 ^ K) V ns ms i x (j + 1) ((c + (f.getD (i + j) 0 + x * y)).fdiv (2 ^ K)) (f.set (i + j) (Builtin.bitAnd (c + (f.getD (i + j) 0 + x * y)) (1 * 2 ^ K - 1))) := by
  obtain ⟨hl, hv, hz⟩ := I
  rw [Int.one_mul, PySem.W.kbt_mask, fdiv_B]
  have a0 := hl.getD (by omega) (i + j)
  have b0 := lb.getD (by omega) j
  have h1 := mul_carry hB c0 c1 a0.1 a0.2 x0 x1 (hy ▸ b0.1) (hy ▸ b0.2)
  refine ⟨h1.2.1, h1.2.2, hl.set (Int.emod_nonneg _ (by omega)) (Int.emod_lt_of_pos _ (by omega)) _, ?_, fun p hp => ?_⟩
  · rw [val_set hij, val_take', ← hy]
    have e : i + (j + 1) = i + j + 1 := by omega
    rw [e]
    generalize hT : c + (f.getD (i + j) 0 + x * y) = T
    have h2 : (2 ^ K : Int) ^ (i + j + 1) * (T / 2 ^ K) = (2 ^ K) ^ (i + j) * (2 ^ K * (T / 2 ^ K)) := by rw [Int.pow_succ, Int.mul_assoc]
    have h3 : T % 2 ^ K + 2 ^ K * (T / 2 ^ K) = T := Int.emod_add_mul_ediv _ _
    rw [h2, Int.add_assoc, ← Int.mul_add]
    have h4 : T % 2 ^ K - f.getD (i + j) 0 + 2 ^ K * (T / 2 ^ K) = c + x * y := by omega
    rw [h4, Int.mul_add, ← Int.add_assoc, hv, Int.mul_add x, Int.mul_add ((2 ^ K : Int) ^ i), Int.add_assoc]
    congr 2
    rw [Int.pow_add, Int.mul_assoc]
    congr 1
    rw [← Int.mul_assoc, Int.mul_comm _ x, Int.mul_assoc]
  · rw [getD_set_ne (by omega)]
    exact hz p hp
theorem MulIn.out {B V c x : Int} {ns ms f pre post : List Int} (c0 : 0 ≤ c) (c1 : c < B) (e : ns = pre ++ x :: post) (hf : f.length = ns.length + ms.length) (hV : V = val B (ns.take pre.length) * val B ms) (I : MulIn B V ns ms pre.length x ms.length c f) :
    MulOut B ns ms (pre.length + 1) (f.set (pre.length + ms.length) c) := by
  obtain ⟨hl, hv, hz⟩ := I
  have hlt : pre.length + ms.length < f.length := by rw [hf, e, List.length_append, List.length_cons]; omega
  refine ⟨hl.set c0 c1 _, by rw [List.length_set, hf], ?_, fun j hj => ?_⟩
  · rw [val_set hlt, hz _ (Nat.le_refl _), Int.sub_zero, hv, take_all (Nat.le_refl _), hV, val_take', ← Int.mul_assoc, Int.add_mul]
    congr 3
    rw [e]
    simp
  · rw [getD_set_ne (by omega)]
    exact hz j (by omega)
inductive EndStop : Prop
  | mk
local macro_rules | `(tactic| walk_at "execs nil") => `(tactic| (k_here; (fail_if_success (fail_if_success (have ks9 : EndStop := by assumption))); with_reducible refine Rest.mk ?_))
set_option maxHeartbeats 1000000 in
theorem mul_says (w : World) (mean : ExcName → Option Value) (mg mb : Str → Option Value) (h : Heap) (la lb : Addr) (vs us : List Value) (ns ms : List Int) (W : Int) (u : Tok) (hla : h.IsList la vs.toArray) (hia : IntsAre vs ns) (hlb : h.IsList lb us.toArray) (hib : IntsAre us ms)
    (hna : ns.length ≤ 60) (hnb : ms.length ≤ 60) (hW : 3 ≤ W) (hW2 : W ≤ 8) (ca : Lim (2 ^ W.toNat) ns) (cb : Lim (2 ^ W.toNat) ms) :
    Says w mean mg mb 182 [.ref la, .ref lb, .int W u] 3 16 h (PList h fun rs => Can (2 ^ W.toNat) rs ∧ val (2 ^ W.toNat) rs = val (2 ^ W.toNat) ns * val (2 ^ W.toNat) ms) := by
  unfold Says
  k_fill
  intro dp un gd env outer A₀ base h₀ L m s Q E hsh B F X T hf hk hdp hun ret
  subst hsh
  have hB := two_pow_ge hW
  refine wpAny_call ?_
  refine' enter_pure (binds := [(Str.ofString "a", .ref la), (Str.ofString "b", .ref lb), (Str.ofString "w", .int W u)]) ?k1 ?k2 ?k3 ?k5 ?kA ?kF ?kK ?k6 ?k7 ?k8 ?k9 ?kB ?_ ?c2 ?c3 ?c4 ?c5
  walk_at "m enter"
  walk_at "m steps"
  refine Rest.out ?_
  rename Fr _ _ _ _ => F1
  refine For_turns F1 ?_
  walk_at "m steps"
  refine Rest.out ?_
  rename News _ _ _ _ => N1
  rename (IntsAre (List.flatten _) _) => I0
  refine' kst_enum (σ := List Value × List Int × Nat) (fun c => [(_, listOf c.1.toArray c.2.2)]) (fun _ => []) (fun c => IntsAre c.1 c.2.1) [Str.ofString "at", Str.ofString "limb", Str.ofString "carry", Str.ofString "spot", Str.ofString "other"] (x := Str.ofString "at")
    (fun pre c => c.2.1.length = ns.length + ms.length ∧ MulOut (2 ^ W.toNat) ns ms pre.length c.2.1) ⟨_, _, 0⟩ (by decide) (by rfl) hla hia F1 (news_two N1) I0 (fun _ h => nomatch h) ?kp ?_ ?_
  case kp => exact MulOut.start (by omega) (by omega)
  · clear F1 N1 I0
    rintro ⟨c1, c2, c3⟩ pre post x t₁ t₂ T v hh tk own e hoff hf ⟨hp1, hp2⟩ hT F2 N2
    simp only [List.map_cons, List.map_nil] at hoff
    dsimp only at hf hp1 hp2 F2 N2
    k_fold
    have hx : 0 ≤ x ∧ x < 2 ^ W.toNat := ca x (by rw [e]; simp)
    have h256 := two_pow_le hW2
    have hx8 : x < 256 := by omega
    have hx0 := hx.1
    have hlen : pre.length + 1 ≤ ns.length := by rw [e, List.length_append, List.length_cons]; omega
    walk_at "m steps"
    refine Rest.out ?_
    rename Fr _ _ _ _ => F3
    refine For_turns F3 ?_
    walk_at "m steps"
    refine Rest.out ?_
    rename News _ _ _ _ => N3
    simp only [List.cons_append, List.nil_append] at N3
    refine' kst_enum (σ := Int × Nat × List Value × List Int × Nat) (fun c => (_, listOf c.2.2.1.toArray c.2.2.2.2) :: own) (fun c => [(Str.ofString "carry", .int c.1 c.2.1)]) (fun c => IntsAre c.2.2.1 c.2.2.2.1) [Str.ofString "spot", Str.ofString "other"] (x := Str.ofString "spot")
      (fun pre' c => 0 ≤ c.1 ∧ c.1 < 2 ^ W.toNat ∧ c.2.2.2.1.length = ns.length + ms.length ∧ MulIn (2 ^ W.toNat) (val (2 ^ W.toNat) c2) ns ms pre.length x pre'.length c.1 c.2.2.2.1) ⟨0, tk, c1, c2, c3⟩ (by decide) (by rfl) hlb hib F3 N3 hf ?kk ?kp ?_ ?_
    case kk => exact List.forall_mem_cons.mpr ⟨by with_unfolding_all rfl, List.forall_mem_nil _⟩
    case kp => exact ⟨by omega, by omega, hp1, MulIn.start hp2⟩
    · clear F3 N3
      rintro ⟨d0, d1, d2, d3, d4⟩ pre' post' y t₃ t₄ T' v' hh' tk' own' e' hoff' hf' ⟨hq0, hq1, hq2, hq3⟩ hT' F4 N4
      k_fold
      simp only [List.map_cons] at hoff'
      have hoff2 := ownOff_two hoff hoff'
      dsimp only at hf' hq0 hq1 hq2 hq3 F4 N4
      simp only [List.cons_append] at N4
      have hy : 0 ≤ y ∧ y < 2 ^ W.toNat := cb y (by rw [e']; simp)
      have hy8 : y < 256 := by omega
      have hy0 := hy.1
      have hlen' : pre'.length + 1 ≤ ms.length := by rw [e', List.length_append, List.length_cons]; omega
      have es := EndStop.mk
      walk_at "m steps"
      refine Rest.out ?_
      clear es
      walk1
      (try dsimp only)
      walk1
      (try dsimp only)
      have e3 : (↑pre.length + ↑pre'.length : Int).toNat = pre.length + pre'.length := by omega
      rename (IntsAre (List.set _ _ _) _) => hi3
      have ht := MulIn.turn hB hq2 (i := pre.length) (j := pre'.length) (by omega) hx.1 hx.2 cb (show y = ms.getD pre'.length 0 by rw [e']; simp) (by omega) hq0 hq1 hq3
      refine kst_end ⟨_, _, _, _, _⟩ (by assumption) (by assumption) (sub_head _ _ _) (fun p hp => .tail _ (List.mem_append_right _ hp)) rfl hi3 (List.forall_mem_cons.mpr ⟨by with_unfolding_all rfl, List.forall_mem_nil _⟩)
        (fun z h1 h2 h3 => by simp only [List.contains_cons, List.contains_nil, Bool.or_false, Bool.or_eq_false_iff, beq_eq_false_iff_ne, ne_eq] at h3; have h4 := h2 _ (.head _); simp only at h4; simp [h3, h4, kstB]) ?_
      dsimp only
      rw [e3, List.length_set, List.length_append, List.length_singleton]
      exact ⟨ht.1, ht.2.1, hq2, ht.2.2⟩
    · clear F3 N3
      rintro ⟨d0, d1, d2, d3, d4⟩ v' hh' tk' hf' ⟨hq0, hq1, hq2, hq3⟩ F4 N4
      dsimp only at hf' hq0 hq1 hq2 hq3 F4 N4
      have es := EndStop.mk
      walk_at "m steps"
      refine Rest.out ?_
      clear es
      walk1
      (try dsimp only)
      walk1
      (try dsimp only)
      have e3 : (↑pre.length + ↑ms.length : Int).toNat = pre.length + ms.length := by omega
      rename (IntsAre (List.set _ _ _) _) => hi3
      refine kst_end ⟨_, _, _⟩ (by assumption) (by assumption) (fun p hp => by rw [List.mem_singleton.mp hp]; exact .head _) (fun p hp => .tail _ hp) rfl hi3 (fun _ h => nomatch h) (fun z h1 h2 h3 => by simp only [List.contains_cons, List.contains_nil, Bool.or_false, Bool.or_eq_false_iff, beq_eq_false_iff_ne, ne_eq] at h3; simp [h3, kstB]) ?_
      dsimp only
      rw [e3, List.length_set, List.length_append, List.length_singleton]
      exact ⟨hq2, MulIn.out hq0 hq1 e hq2 hp2.2.2.1 hq3⟩
  · clear F1 N1 I0
    rintro ⟨c1, c2, c3⟩ v hh tk hf ⟨hp1, hp2⟩ F2 N2
    dsimp only at hf hp1 hp2 F2 N2
    walk_at "m steps"
    refine Rest.out ?_
    refine' Says.useList (normal_says w mean mg mb _ _ _ _ (by is_list) hf (by omega)) ?kB ?kF ?kN ?kX ?kT ?hf ?hk ?hd ?hu ?_
    walk_at "m ctx"
    intro cL cU cC cNs cH cTk cF cN cD cI cP
    (try dsimp only)
    (try k_fold)
    walk_at "m steps"
    refine ret _ _ _ (Fr.keep (by assumption)) (list_end (by assumption) (by repeat (first | exact .head _ | refine .tail _ ?_)) (by first | assumption | exact ints_concat (by assumption) | exact IntsAre.append (by assumption) (.cons _ _ .nil)) ?_)
    have hv := hp2.2.2.1
    rw [take_all (Nat.le_refl _)] at hv
    rw [← hv]
    exact cP _ (by omega) hp2.1

end Mine
end FMul
section FShift
namespace Mine
theorem fresh_FShift : True := by
  k_with_none
  w_top off
  trivial
open PySem PySem.W PySem.Spec PySem.Calls PyProof.Rows
local macro_rules | `(tactic| walk_at "m enter") => `(tactic| (
  (case kA => exact rfl); (case kF => assumption); (case kK => assumption); (case k1 => assumption); (case k2 => assumption); (case k3 => assumption); (case k5 => assumption); (case k6 => k_is); (case k7 => k_is); (case k8 => ((try dsimp only [around]); omega)); (case k9 => exact BindsTo.of_eq rfl); (case c5 => decide); (case kB => exact locs rfl); (case c2 => exact rfl); (case c3 => exact rfl); (case c4 => exact rfl); k_whole; intro L' h' F' N' B' X' T'; (try dsimp only); (try k_fold)))
local macro_rules | `(tactic| size_fits) => `(tactic| (refine fits_ints (by assumption) ?_; first | omega | fail "m: no length"))
local macro_rules | `(tactic| walk_at "exec While Compare cons nil") => `(tactic| (k_here; with_reducible refine Rest.mk ?_))
local macro_rules | `(tactic| walk_at "m steps") => `(tactic| repeat' (first | (k_unfold; (try dsimp only)) | walk1 | (dsimp only; first | (k_unfold; (try dsimp only)) | walk1) | (k_unmd; k_unfold; (try dsimp only))))
local macro_rules | `(tactic| kst_facts) => `(tactic| ((try dsimp only); first | exact IntsAre.nil | exact True.intro | assumption | exact IntsAre.append (by assumption) (.cons _ _ .nil)))
local macro_rules | `(tactic| walk_at "exec While BoolOp cons nil") => `(tactic| (k_here; with_reducible refine Rest.mk ?_))
local macro_rules | `(tactic| walk_at "call ref") => `(tactic| (k_here; with_reducible refine Rest.mk ?_))
local macro_rules | `(tactic| walk_at "m ctx") => `(tactic| ((case kB => assumption); (case kF => assumption); (case kN => assumption); (case kX => assumption); (case kT => assumption); (case hf => exact rfl); (case hk => exact rfl); (case hd => ((try dsimp only [around, Around.deeper]); omega)); (case hu => ((try dsimp only [around, Around.deeper]); omega))))
local macro_rules | `(tactic| walk_at "exec For Tuple Call cons nil") => `(tactic| (k_here; with_reducible refine Rest.mk ?_))
local macro_rules | `(tactic| walk_at "call type:enumerate") => `(tactic| (k_here; with_reducible refine Rest.mk ?_))

theorem and_apart : ∀ (k : Nat) (c x : Int), 0 ≤ c → c < 2 ^ k → Builtin.bitAnd c (x * 2 ^ k) = 0
  | 0, c, x, h0, h1 => by
    have e : c = 0 := by simp at h1; omega
    rw [e, PyProof.Rows.bitAnd_comm]
    have := PyProof.Rows.bitAnd_range (x * 2 ^ 0) (y := 0) (by omega)
    omega
  | k + 1, c, x, h0, h1 => by
    have e : x * 2 ^ (k + 1) = 2 * (x * 2 ^ k) := by rw [Int.pow_succ]; rw [← Int.mul_assoc, Int.mul_comm]
    have h2 : c / 2 < 2 ^ k := by rw [Int.pow_succ] at h1; exact Int.ediv_lt_of_lt_mul (by omega) h1
    have h3 : (2 * (x * 2 ^ k)) / 2 = x * 2 ^ k := by omega
    have h4 : ¬(c % 2 = 1 ∧ (2 * (x * 2 ^ k)) % 2 = 1) := by omega
    rw [e, PySem.W.kbt_halves, h3, and_apart k (c / 2) x (by omega) h2, if_neg h4]
    rfl
theorem or_apart {k : Nat} {c x : Int} (h0 : 0 ≤ c) (h1 : c < 2 ^ k) : Builtin.bitOr c (x * 2 ^ k) = c + x * 2 ^ k := by
  have h2 := PyProof.Rows.bitXor_and c (x * 2 ^ k)
  have h3 : Builtin.bitXor c (x * 2 ^ k) = Builtin.bitOr c (x * 2 ^ k) - Builtin.bitAnd c (x * 2 ^ k) := rfl
  rw [h3, and_apart k c x h0 h1] at h2
  omega
/-- q noughts ahead, then the limbs of pre times P; c is carried -/
def ShInv (B : Int) (q : Nat) (P : Int) (pre : List Int) (c : Int) (f : List Int) : Prop := Lim B f ∧ f.length = q + pre.length ∧ val B f + B ^ (q + pre.length) * c = B ^ q * (P * val B pre)
theorem ShInv.start {B P : Int} (hB : 0 < B) (q : Nat) : ShInv B q P [] 0 (List.replicate q [(0 : Int)]).flatten := by
  rw [flatten_zero]
  exact ⟨lim_zeros hB q, by simp, by simp [val_zeros, val]⟩
theorem ShInv.turn {K k q : Nat} {c x : Int} {pre f : List Int} (hB : 8 ≤ (2 : Int) ^ K) (x0 : 0 ≤ x) (x1 : x < 2 ^ K) (c0 : 0 ≤ c) (c1 : c < 2 ^ k) (I : ShInv (2 ^ K) q (2 ^ k) pre c f) :
    0 ≤ (Builtin.bitOr c (x * 2 ^ k)).fdiv (2 ^ K) ∧ (Builtin.bitOr c (x * 2 ^ k)).fdiv (2 ^ K) < 2 ^ k ∧
      ShInv (2 ^ K) q (2 ^ k) (pre ++ [x]) ((Builtin.bitOr c (x * 2 ^ k)).fdiv (2 ^ K)) (f ++ [Builtin.bitAnd (Builtin.bitOr c (x * 2 ^ k)) (1 * 2 ^ K - 1)]) := by
  obtain ⟨hl, hf, hv⟩ := I
  rw [Int.one_mul, PySem.W.kbt_mask, fdiv_B, or_apart c0 c1]
  have h1 : 0 ≤ x * 2 ^ k := Int.mul_nonneg x0 (Int.le_of_lt (ipow_pos (by decide) k))
  have h2 : (x + 1) * 2 ^ k ≤ 2 ^ K * 2 ^ k := Int.mul_le_mul_of_nonneg_right (by omega) (Int.le_of_lt (ipow_pos (by decide) k))
  rw [Int.add_mul, Int.one_mul, Int.mul_comm (2 ^ K)] at h2
  have h3 : (c + x * 2 ^ k) / 2 ^ K < 2 ^ k := Int.ediv_lt_of_lt_mul (by omega) (by omega)
  refine ⟨Int.ediv_nonneg (by omega) (by omega), h3, hl.snoc (Int.emod_nonneg _ (by omega)) (Int.emod_lt_of_pos _ (by omega)), by simp [hf]; omega, ?_⟩
  rw [List.length_append, List.length_singleton, ← Nat.add_assoc, ← hf]
  refine split_k ?_
  rw [hf, Int.mul_add, ← Int.add_assoc, hv, val_snoc, Int.mul_add, Int.mul_add, Int.pow_add]
  congr 1
  rw [Int.mul_assoc]
  congr 1
  rw [← Int.mul_assoc, Int.mul_comm _ (2 ^ k : Int)]
theorem sh_pow {n W : Int} (h0 : 0 ≤ n) (hW : 3 ≤ W) : ((2 : Int) ^ W.toNat) ^ (n.fdiv W).toNat * 2 ^ (n.fmod W).toNat = 2 ^ n.toNat := by
  rw [← Int.pow_mul, ← Int.pow_add]
  congr 1
  rw [Int.fdiv_eq_ediv_of_nonneg _ (by omega), Int.fmod_eq_emod_of_nonneg _ (by omega)]
  have h1 : 0 ≤ n / W := Int.ediv_nonneg h0 (by omega)
  have h2 := Int.emod_nonneg n (show W ≠ 0 by omega)
  have h3 := Int.emod_add_mul_ediv n W
  have h4 : ((W.toNat * (n / W).toNat : Nat) : Int) = W * (n / W) := by rw [Int.natCast_mul, Int.toNat_of_nonneg (by omega), Int.toNat_of_nonneg h1]
  omega
theorem ShInv.val {n W c : Int} {ns f : List Int} (h0 : 0 ≤ n) (hW : 3 ≤ W) (I : ShInv (2 ^ W.toNat) (n.fdiv W).toNat (2 ^ (n.fmod W).toNat) ns c f) : Mine.val (2 ^ W.toNat) f + (2 ^ W.toNat) ^ f.length * c = Mine.val (2 ^ W.toNat) ns * 2 ^ n.toNat := by
  rw [I.2.1, I.2.2, ← Int.mul_assoc, sh_pow h0 hW, Int.mul_comm]
theorem ShInv.out1 {n W c : Int} {ns f : List Int} (h0 : 0 ≤ n) (hW : 3 ≤ W) (hr0 : 0 ≤ n.fmod W) (hr1 : n.fmod W < W) (c0 : 0 < c) (c1 : c < 2 ^ (n.fmod W).toNat) (I : ShInv (2 ^ W.toNat) (n.fdiv W).toNat (2 ^ (n.fmod W).toNat) ns c f) :
    Can (2 ^ W.toNat) (f ++ [c]) ∧ Mine.val (2 ^ W.toNat) (f ++ [c]) = Mine.val (2 ^ W.toNat) ns * 2 ^ n.toNat := by
  have hB := two_pow_ge hW
  have h1 := ipow_le (show (2 : Int) ≤ 2 by decide) (show (n.fmod W).toNat ≤ W.toNat by omega)
  refine ⟨Can.top (by omega) (I.1.snoc (by omega) (by omega)) (by omega), ?_⟩
  rw [val_snoc]
  exact I.val h0 hW
theorem ShInv.out0 {n W c : Int} {ns f : List Int} (h0 : 0 ≤ n) (hW : 3 ≤ W) (ca : Can (2 ^ W.toNat) ns) (hn : ns ≠ []) (c0 : ¬0 < c) (c1 : 0 ≤ c) (I : ShInv (2 ^ W.toNat) (n.fdiv W).toNat (2 ^ (n.fmod W).toNat) ns c f) :
    Can (2 ^ W.toNat) f ∧ Mine.val (2 ^ W.toNat) f = Mine.val (2 ^ W.toNat) ns * 2 ^ n.toNat := by
  have hB := two_pow_ge hW
  have hv := I.val h0 hW
  have e : c = 0 := by omega
  rw [e, Int.mul_zero, Int.add_zero] at hv
  refine ⟨⟨I.1, fun _ => ?_⟩, hv⟩
  have h1 := ca.2 hn
  have h2 : 0 < ns.length := List.length_pos_iff.mpr hn
  have h3 := I.2.2
  rw [e, Int.mul_zero, Int.add_zero] at h3
  rw [h3, I.2.1, show (n.fdiv W).toNat + ns.length - 1 = (n.fdiv W).toNat + (ns.length - 1) by omega, Int.pow_add]
  refine Int.mul_le_mul_of_nonneg_left ?_ (Int.le_of_lt (ipow_pos (by omega) _))
  have h4 : (1 : Int) ≤ 2 ^ (n.fmod W).toNat := ipow_pos (by decide) _
  have h5 := Int.mul_le_mul_of_nonneg_right h4 (val_nonneg (show 2 ≤ (2 : Int) ^ W.toNat by omega) ca.lim)
  omega
set_option maxHeartbeats 1000000 in
theorem shift_left_says (w : World) (mean : ExcName → Option Value) (mg mb : Str → Option Value) (h : Heap) (la : Addr) (vs : List Value) (ns : List Int) (n W : Int) (t u : Tok) (hla : h.IsList la vs.toArray) (hia : IntsAre vs ns)
    (hna : ns.length ≤ 60) (h0 : 0 ≤ n) (hn : n ≤ 6) (hW : 3 ≤ W) (hW2 : W ≤ 8) (ca : Can (2 ^ W.toNat) ns) :
    Says w mean mg mb 107 [.ref la, .int n t, .int W u] 3 16 h (PList h fun rs => Can (2 ^ W.toNat) rs ∧ val (2 ^ W.toNat) rs = val (2 ^ W.toNat) ns * 2 ^ n.toNat) := by
  unfold Says
  k_fill
  intro dp un gd env outer A₀ base h₀ L m s Q E hsh B F X T hf hk hdp hun ret
  subst hsh
  have hB := two_pow_ge hW
  have hq0 : 0 ≤ n.fdiv W := by rw [Int.fdiv_eq_ediv_of_nonneg _ (by omega)]; exact Int.ediv_nonneg h0 (by omega)
  have hq1 : n.fdiv W ≤ 6 := by rw [Int.fdiv_eq_ediv_of_nonneg _ (by omega)]; exact Int.le_trans (Int.ediv_le_self _ h0) hn
  have hr0 : 0 ≤ n.fmod W := by rw [Int.fmod_eq_emod_of_nonneg _ (by omega)]; exact Int.emod_nonneg _ (by omega)
  have hr1 : n.fmod W < W := by rw [Int.fmod_eq_emod_of_nonneg _ (by omega)]; exact Int.emod_lt_of_pos _ (by omega)
  refine wpAny_call ?_
  refine' enter_pure (binds := [(Str.ofString "a", .ref la), (Str.ofString "n", .int n t), (Str.ofString "w", .int W u)]) ?k1 ?k2 ?k3 ?k5 ?kA ?kF ?kK ?k6 ?k7 ?k8 ?k9 ?kB ?_ ?c2 ?c3 ?c4 ?c5
  walk_at "m enter"
  k_with "pyIter ref" => refine Rest.mk ?_
  walk_at "m steps"
  · refine ret _ _ _ (Fr.keep (by assumption)) (list_end (by assumption) (.head _) .nil ?_)
    have e9 : ns = [] := List.length_eq_zero_iff.mp (by omega)
    rw [e9]
    exact ⟨Can.nil, by simp [val]⟩
  refine Rest.out ?_
  rename Fr _ _ _ _ => F1
  rename News _ _ _ _ => N1
  rename (IntsAre (List.flatten _) _) => I0
  refine' kst_list (σ := Int × Nat × List Value × List Int × Nat) (fun c => [(_, listOf c.2.2.1.toArray c.2.2.2.2)]) (fun c => [(Str.ofString "carry", .int c.1 c.2.1)]) (fun c => IntsAre c.2.2.1 c.2.2.2.1) []
    (fun pre c => 0 ≤ c.1 ∧ c.1 < 2 ^ (n.fmod W).toNat ∧ ShInv (2 ^ W.toNat) (n.fdiv W).toNat (2 ^ (n.fmod W).toNat) pre c.1 c.2.2.2.1) ⟨0, _, _, _, 0⟩ (by rfl) hla hia F1 (news_two N1) I0 ?kk ?kp ?_ ?_
  case kk => exact List.forall_mem_cons.mpr ⟨by with_unfolding_all rfl, List.forall_mem_nil _⟩
  case kp => exact ⟨by omega, ipow_pos (by decide) _, ShInv.start (by omega) _⟩
  · clear F1 N1 I0
    rintro ⟨c0, c1, c2, c3, c4⟩ pre post x t₁ v hh tk own e hmem hoff hf ⟨hp0, hp1, hp2⟩ F2 N2
    k_fold
    simp only [List.map_cons, List.map_nil] at hoff
    dsimp only at hf hp0 hp1 hp2 F2 N2
    simp only [List.cons_append, List.nil_append] at N2
    have hx : 0 ≤ x ∧ x < 2 ^ W.toNat := ca.lim x (by rw [e]; simp)
    have h256 := two_pow_le hW2
    have hx8 : x < 256 := by omega
    have hx0 := hx.1
    have hln := hp2.2.1
    have hlp : pre.length + 1 ≤ ns.length := by rw [e, List.length_append, List.length_cons]; omega
    have ht := ShInv.turn hB hx.1 hx.2 hp0 hp1 hp2
    walk_at "m steps"
    rename News _ _ _ _ => N5
    simp only [List.push_toArray] at N5
    refine kst_end ⟨_, _, _, _, _⟩ (by assumption) N5 (fun p hp => by rw [List.mem_singleton.mp hp]; exact .head _) (fun p hp => .tail _ hp) rfl (IntsAre.append hf (.cons _ _ .nil)) (List.forall_mem_cons.mpr ⟨by with_unfolding_all rfl, List.forall_mem_nil _⟩)
      (fun z h1 h2 h3 => by have h4 := h2 _ (.head _); simp only at h4; simp [h1, h4, kstB]) ?_
    exact ht
  · clear F1 N1 I0
    rintro ⟨c0, c1, c2, c3, c4⟩ v hh tk hf ⟨hp0, hp1, hp2⟩ F2 N2
    dsimp only at hf hp0 hp1 hp2 F2 N2
    have hln := hp2.2.1
    have hne : ns ≠ [] := by
      intro q
      have q0 : ns.length = 0 := by rw [q]; rfl
      omega
    walk_at "m steps"
    · refine ret _ _ _ (Fr.keep (by assumption)) (list_end (by assumption) (by repeat (first | exact .head _ | refine .tail _ ?_)) (by first | assumption | exact ints_concat (by assumption) | exact IntsAre.append (by assumption) (.cons _ _ .nil)) ?_)
      exact ShInv.out1 h0 hW hr0 hr1 (by assumption) hp1 hp2
    · refine ret _ _ _ (Fr.keep (by assumption)) (list_end (by assumption) (by repeat (first | exact .head _ | refine .tail _ ?_)) (by first | assumption | exact ints_concat (by assumption) | exact IntsAre.append (by assumption) (.cons _ _ .nil)) ?_)
      exact ShInv.out0 h0 hW ca hne (by assumption) hp0 hp2

end Mine
end FShift
section FSigned
namespace Mine
theorem fresh_FSigned : True := by
  k_with_none
  w_top off
  trivial
open PySem PySem.W PySem.Spec PySem.Calls PyProof.Rows
local macro_rules | `(tactic| walk_at "m enter") => `(tactic| (
  (case kA => exact rfl); (case kF => assumption); (case kK => assumption); (case k1 => assumption); (case k2 => assumption); (case k3 => assumption); (case k5 => assumption); (case k6 => k_is); (case k7 => k_is); (case k8 => ((try dsimp only [around]); omega)); (case k9 => exact BindsTo.of_eq rfl); (case c5 => decide); (case kB => exact locs rfl); (case c2 => exact rfl); (case c3 => exact rfl); (case c4 => exact rfl); k_whole; intro L' h' F' N' B' X' T'; (try dsimp only); (try k_fold)))
local macro_rules | `(tactic| size_fits) => `(tactic| (refine fits_ints (by assumption) ?_; first | omega | fail "m: no length"))
local macro_rules | `(tactic| walk_at "exec While Compare cons nil") => `(tactic| (k_here; with_reducible refine Rest.mk ?_))
local macro_rules | `(tactic| walk_at "m steps") => `(tactic| repeat' (first | (k_unfold; (try dsimp only)) | walk1 | (dsimp only; first | (k_unfold; (try dsimp only)) | walk1) | (k_unmd; k_unfold; (try dsimp only))))
local macro_rules | `(tactic| kst_facts) => `(tactic| ((try dsimp only); first | exact IntsAre.nil | exact True.intro | assumption | exact IntsAre.append (by assumption) (.cons _ _ .nil)))
local macro_rules | `(tactic| walk_at "exec While BoolOp cons nil") => `(tactic| (k_here; with_reducible refine Rest.mk ?_))
local macro_rules | `(tactic| walk_at "call ref") => `(tactic| (k_here; with_reducible refine Rest.mk ?_))
local macro_rules | `(tactic| walk_at "m ctx") => `(tactic| ((case kB => assumption); (case kF => assumption); (case kN => assumption); (case kX => assumption); (case kT => assumption); (case hf => exact rfl); (case hk => exact rfl); (case hd => ((try dsimp only [around, Around.deeper]); omega)); (case hu => ((try dsimp only [around, Around.deeper]); omega))))
local macro_rules | `(tactic| walk_at "exec For Tuple Call cons nil") => `(tactic| (k_here; with_reducible refine Rest.mk ?_))
local macro_rules | `(tactic| walk_at "call type:enumerate") => `(tactic| (k_here; with_reducible refine Rest.mk ?_))

abbrev sgn (b : Bool) (ns : List Int) : Bool := b && decide (0 < (ns.length : Int))
theorem tup_ret {h h' : Heap} {L' T l : Addr} {b b' : Bool} {c : Nat} {news : List (Addr × Obj)} (N : News h L' h' news) (hm : (T, tupOf #[.bool b', .ref l] c) ∈ news) (e : b' = b) : PTup h b l (.ref T) h' := e ▸ tup_end N hm
set_option maxHeartbeats 1000000 in
theorem signed_says (w : World) (mean : ExcName → Option Value) (mg mb : Str → Option Value) (h : Heap) (b : Bool) (l : Addr) (vs : List Value) (ns : List Int) (hl : h.IsList l vs.toArray) (hi : IntsAre vs ns) (hlen : ns.length ≤ 1000) :
    Says w mean mg mb 189 [.bool b, .ref l] 2 8 h (PTup h (sgn b ns) l) := by
  unfold Says
  k_fill
  intro dp un gd env outer A₀ base h₀ L m s Q E hsh B F X T hf hk hdp hun ret
  subst hsh
  refine wpAny_call ?_
  refine' enter_pure (binds := [(Str.ofString "is_below", .bool b), (Str.ofString "nat", .ref l)]) ?k1 ?k2 ?k3 ?k5 ?kA ?kF ?kK ?k6 ?k7 ?k8 ?k9 ?kB ?_ ?c2 ?c3 ?c4 ?c5
  walk_at "m enter"
  walk_at "m steps"
  · refine ret _ _ _ (Fr.keep (by assumption)) (tup_ret (by assumption) (.head _) ?_)
    rename (b = true) => e
    simp [sgn, e]
  · refine ret _ _ _ (Fr.keep (by assumption)) (tup_ret (by assumption) (.head _) ?_)
    rename (b = false) => e
    simp [sgn, e]
set_option maxHeartbeats 1000000 in
theorem s_neg_says (w : World) (mean : ExcName → Option Value) (mg mb : Str → Option Value) (h : Heap) (x : Addr) (b : Bool) (l : Addr) (vs : List Value) (ns : List Int) (hx : IsTup h x #[.bool b, .ref l]) (hl : h.IsList l vs.toArray) (hi : IntsAre vs ns) (hlen : ns.length ≤ 1000) :
    Says w mean mg mb 196 [.ref x] 3 16 h (PTup h (sgn (!b) ns) l) := by
  unfold Says
  k_fill
  intro dp un gd env outer A₀ base h₀ L m s Q E hsh B F X T hf hk hdp hun ret
  subst hsh
  refine wpAny_call ?_
  refine' enter_pure (binds := [(Str.ofString "x", .ref x)]) ?k1 ?k2 ?k3 ?k5 ?kA ?kF ?kK ?k6 ?k7 ?k8 ?k9 ?kB ?_ ?c2 ?c3 ?c4 ?c5
  walk_at "m enter"
  walk_at "m steps"
  refine Rest.out ?_
  refine' Says.useTup (signed_says w mean mg mb _ _ _ _ _ (by is_list) hi hlen) ?kB ?kF ?kN ?kX ?kT ?hf ?hk ?hd ?hu ?_
  walk_at "m ctx"
  intro cT cC cH cTk cF cN cD
  (try dsimp only)
  (try k_fold)
  walk_at "m steps"
  exact ret _ _ _ (Fr.keep (by assumption)) (tup_end (by assumption) (.head _))

end Mine
end FSigned
section FSAdd
namespace Mine
theorem fresh_FSAdd : True := by
  k_with_none
  w_top off
  trivial
open PySem PySem.W PySem.Spec PySem.Calls PyProof.Rows
local macro_rules | `(tactic| walk_at "m enter") => `(tactic| (
  (case kA => exact rfl); (case kF => assumption); (case kK => assumption); (case k1 => assumption); (case k2 => assumption); (case k3 => assumption); (case k5 => assumption); (case k6 => k_is); (case k7 => k_is); (case k8 => ((try dsimp only [around]); omega)); (case k9 => exact BindsTo.of_eq rfl); (case c5 => decide); (case kB => exact locs rfl); (case c2 => exact rfl); (case c3 => exact rfl); (case c4 => exact rfl); k_whole; intro L' h' F' N' B' X' T'; (try dsimp only); (try k_fold)))
local macro_rules | `(tactic| size_fits) => `(tactic| (refine fits_ints (by assumption) ?_; first | omega | fail "m: no length"))
local macro_rules | `(tactic| walk_at "exec While Compare cons nil") => `(tactic| (k_here; with_reducible refine Rest.mk ?_))
local macro_rules | `(tactic| walk_at "m steps") => `(tactic| repeat' (first | (k_unfold; (try dsimp only)) | walk1 | (dsimp only; first | (k_unfold; (try dsimp only)) | walk1) | (k_unmd; k_unfold; (try dsimp only))))
local macro_rules | `(tactic| kst_facts) => `(tactic| ((try dsimp only); first | exact IntsAre.nil | exact True.intro | assumption | exact IntsAre.append (by assumption) (.cons _ _ .nil)))
local macro_rules | `(tactic| walk_at "exec While BoolOp cons nil") => `(tactic| (k_here; with_reducible refine Rest.mk ?_))
local macro_rules | `(tactic| walk_at "call ref") => `(tactic| (k_here; with_reducible refine Rest.mk ?_))
local macro_rules | `(tactic| walk_at "m ctx") => `(tactic| ((case kB => assumption); (case kF => assumption); (case kN => assumption); (case kX => assumption); (case kT => assumption); (case hf => exact rfl); (case hk => exact rfl); (case hd => ((try dsimp only [around, Around.deeper]); omega)); (case hu => ((try dsimp only [around, Around.deeper]); omega))))
local macro_rules | `(tactic| walk_at "exec For Tuple Call cons nil") => `(tactic| (k_here; with_reducible refine Rest.mk ?_))
local macro_rules | `(tactic| walk_at "call type:enumerate") => `(tactic| (k_here; with_reducible refine Rest.mk ?_))

/-- a signed number: its value, and when it is canonical -/
noncomputable def sv (B : Int) (b : Bool) (ns : List Int) : Int := if b then -val B ns else val B ns
def SOk (B : Int) (b : Bool) (ns : List Int) : Prop := Can B ns ∧ (b = true → ns ≠ [])
theorem sgn_ok {B v : Int} {b : Bool} {ns : List Int} (h : Can B ns) (hv : val B ns = v) : SOk B (sgn b ns) ns ∧ sv B (sgn b ns) ns = if b then -v else v := by
  cases ns with
  | nil =>
    have e : sgn b [] = false := by simp [sgn]
    rw [e]
    refine ⟨⟨h, fun q => nomatch q⟩, ?_⟩
    simp only [val] at hv
    subst hv
    simp [sv, val]
  | cons x r =>
    have e : sgn b (x :: r) = b := by simp [sgn]
    rw [e]
    exact ⟨⟨h, fun _ => by simp⟩, by rw [sv, hv]⟩
theorem sv_add {B : Int} {b : Bool} {ns ms : List Int} : (if b then -(val B ns + val B ms) else val B ns + val B ms) = sv B b ns + sv B b ms := by
  unfold sv; cases b <;> simp <;> omega
theorem sv_sub {B : Int} {b c : Bool} {ns ms : List Int} (h : ¬b = c) : (if b then -(val B ns - val B ms) else val B ns - val B ms) = sv B b ns + sv B c ms := by
  unfold sv; cases b <;> cases c <;> simp at h ⊢ <;> omega
theorem sv_sub' {B : Int} {b c : Bool} {ns ms : List Int} (h : ¬b = c) : (if c then -(val B ms - val B ns) else val B ms - val B ns) = sv B b ns + sv B c ms := by
  unfold sv; cases b <;> cases c <;> simp at h ⊢ <;> omega
theorem add_len {B : Int} {ns ms rs : List Int} (hB : 8 ≤ B) (ca : Can B ns) (cb : Can B ms) (hna : ns.length ≤ 60) (hnb : ms.length ≤ 60) (cr : Can B rs) (hv : val B rs = val B ns + val B ms) : rs.length ≤ 61 := by
  refine cr.len_le (by omega) ?_
  have h1 := val_lt (show 2 ≤ B by omega) ca.lim
  have h2 := val_lt (show 2 ≤ B by omega) cb.lim
  have h3 := ipow_le (show 2 ≤ B by omega) hna
  have h4 := ipow_le (show 2 ≤ B by omega) hnb
  have h5 := Int.mul_le_mul_of_nonneg_left (show 2 ≤ B by omega) (Int.le_of_lt (ipow_pos (show 2 ≤ B by omega) 60))
  rw [Int.pow_succ]
  omega
theorem sub_len {B : Int} {ns ms rs : List Int} (hB : 8 ≤ B) (ca : Can B ns) (cb : Can B ms) (hna : ns.length ≤ 60) (cr : Can B rs) (hv : val B rs = val B ns - val B ms) : rs.length ≤ 60 := by
  refine cr.len_le (by omega) ?_
  have h1 := val_lt (show 2 ≤ B by omega) ca.lim
  have h2 := val_nonneg (show 2 ≤ B by omega) cb.lim
  have h3 := ipow_le (show 2 ≤ B by omega) hna
  omega
theorem sgn_eq {B : Int} {b c : Bool} {ns ms : List Int} (h : b = c) : (if b then -(val B ns + val B ms) else val B ns + val B ms) = sv B b ns + sv B c ms := by
  subst h; exact sv_add
set_option maxHeartbeats 1000000 in
theorem s_add_says (w : World) (mean : ExcName → Option Value) (mg mb : Str → Option Value) (h : Heap) (x y : Addr) (b c : Bool) (la lb : Addr) (vs us : List Value) (ns ms : List Int) (W : Int) (u : Tok) (hx : IsTup h x #[.bool b, .ref la]) (hy : IsTup h y #[.bool c, .ref lb])
    (hla : h.IsList la vs.toArray) (hia : IntsAre vs ns) (hlb : h.IsList lb us.toArray) (hib : IntsAre us ms) (hna : ns.length ≤ 60) (hnb : ms.length ≤ 60) (hW : 3 ≤ W) (hW2 : W ≤ 8) (ca : Can (2 ^ W.toNat) ns) (cb : Can (2 ^ W.toNat) ms) :
    Says w mean mg mb 203 [.ref x, .ref y, .int W u] 4 24 h (PPair h fun b' rs => SOk (2 ^ W.toNat) b' rs ∧ sv (2 ^ W.toNat) b' rs = sv (2 ^ W.toNat) b ns + sv (2 ^ W.toNat) c ms) := by
  unfold Says
  k_fill
  intro dp un gd env outer A₀ base h₀ L m s Q E hsh B F X T hf hk hdp hun ret
  subst hsh
  have hB := two_pow_ge hW
  refine wpAny_call ?_
  refine' enter_pure (binds := [(Str.ofString "x", .ref x), (Str.ofString "y", .ref y), (Str.ofString "w", .int W u)]) ?k1 ?k2 ?k3 ?k5 ?kA ?kF ?kK ?k6 ?k7 ?k8 ?k9 ?kB ?_ ?c2 ?c3 ?c4 ?c5
  walk_at "m enter"
  walk_at "m steps"
  · rename ((b == c) = true) => e
    refine Rest.out ?_
    refine' Says.useList (add_says w mean mg mb _ la lb vs us ns ms W u (by is_list) hia (by is_list) hib hna hnb hW hW2 ca cb) ?kB ?kF ?kN ?kX ?kT ?hf ?hk ?hd ?hu ?_
    walk_at "m ctx"
    intro cL cU cC cNs cH cTk cF cN cD cI cP
    (try dsimp only)
    (try k_fold)
    have hl := add_len hB ca cb hna hnb cP.1 cP.2
    walk_at "m steps"
    refine Rest.out ?_
    refine' Says.useTup (signed_says w mean mg mb _ _ _ _ _ (by is_list) cI (by omega)) ?kB ?kF ?kN ?kX ?kT ?hf ?hk ?hd ?hu ?_
    walk_at "m ctx"
    intro cT2 cC2 cH2 cTk2 cF2 cN2 cD2
    (try dsimp only)
    (try k_fold)
    walk_at "m steps"
    refine ret _ _ _ (Fr.keep (by assumption)) (pair_end (by assumption) (.head _) (.tail _ (.head _)) cI ?_)
    have h1 := sgn_ok (b := b) cP.1 cP.2
    exact ⟨h1.1, h1.2.trans (sgn_eq (by simpa using e))⟩
  · rename ((b == c) = false) => e
    have e' : ¬b = c := by simpa using e
    refine Rest.out ?_
    refine' Says.useInt (compare_says w mean mg mb _ la lb vs us ns ms (2 ^ W.toNat) (by is_list) hia (by is_list) hib hna hnb (by omega) ca cb) ?kB ?kF ?kN ?kX ?kT ?hf ?hk ?hd ?hu ?_
    walk_at "m ctx"
    intro cK cT cH cTk cF cN cP
    (try dsimp only)
    (try k_fold)
    walk_at "m steps"
    · rename (cK < 0) => hc
      refine Rest.out ?_
      refine' Says.useList (sub_says w mean mg mb _ lb la us vs ms ns W u (by is_list) hib (by is_list) hia hnb hna hW hW2 cb ca (Int.le_of_lt (cP.1 hc))) ?kB ?kF ?kN ?kX ?kT ?hf ?hk ?hd ?hu ?_
      walk_at "m ctx"
      intro cL3 cU3 cC3 cNs3 cH3 cTk3 cF3 cN3 cD3 cI3 cP3
      (try dsimp only)
      (try k_fold)
      have hl := sub_len hB cb ca hnb cP3.1 cP3.2
      walk_at "m steps"
      refine Rest.out ?_
      refine' Says.useTup (signed_says w mean mg mb _ _ _ _ _ (by is_list) cI3 (by omega)) ?kB ?kF ?kN ?kX ?kT ?hf ?hk ?hd ?hu ?_
      walk_at "m ctx"
      intro cT2 cC2 cH2 cTk2 cF2 cN2 cD2
      (try dsimp only)
      (try k_fold)
      walk_at "m steps"
      refine ret _ _ _ (Fr.keep (by assumption)) (pair_end (by assumption) (.head _) (.tail _ (.head _)) cI3 ?_)
      have h1 := sgn_ok (b := c) cP3.1 cP3.2
      exact ⟨h1.1, h1.2.trans (sv_sub' e')⟩
    · rename (¬cK < 0) => hc
      refine Rest.out ?_
      refine' Says.useList (sub_says w mean mg mb _ la lb vs us ns ms W u (by is_list) hia (by is_list) hib hna hnb hW hW2 ca cb (cP.2 (by omega))) ?kB ?kF ?kN ?kX ?kT ?hf ?hk ?hd ?hu ?_
      walk_at "m ctx"
      intro cL3 cU3 cC3 cNs3 cH3 cTk3 cF3 cN3 cD3 cI3 cP3
      (try dsimp only)
      (try k_fold)
      have hl := sub_len hB ca cb hna cP3.1 cP3.2
      walk_at "m steps"
      refine Rest.out ?_
      refine' Says.useTup (signed_says w mean mg mb _ _ _ _ _ (by is_list) cI3 (by omega)) ?kB ?kF ?kN ?kX ?kT ?hf ?hk ?hd ?hu ?_
      walk_at "m ctx"
      intro cT2 cC2 cH2 cTk2 cF2 cN2 cD2
      (try dsimp only)
      (try k_fold)
      walk_at "m steps"
      refine ret _ _ _ (Fr.keep (by assumption)) (pair_end (by assumption) (.head _) (.tail _ (.head _)) cI3 ?_)
      have h1 := sgn_ok (b := b) cP3.1 cP3.2
      exact ⟨h1.1, h1.2.trans (sv_sub e')⟩

end Mine
end FSAdd
section FSSub
namespace Mine
theorem fresh_FSSub : True := by
  k_with_none
  w_top off
  trivial
open PySem PySem.W PySem.Spec PySem.Calls PyProof.Rows
local macro_rules | `(tactic| walk_at "m enter") => `(tactic| (
  (case kA => exact rfl); (case kF => assumption); (case kK => assumption); (case k1 => assumption); (case k2 => assumption); (case k3 => assumption); (case k5 => assumption); (case k6 => k_is); (case k7 => k_is); (case k8 => ((try dsimp only [around]); omega)); (case k9 => exact BindsTo.of_eq rfl); (case c5 => decide); (case kB => exact locs rfl); (case c2 => exact rfl); (case c3 => exact rfl); (case c4 => exact rfl); k_whole; intro L' h' F' N' B' X' T'; (try dsimp only); (try k_fold)))
local macro_rules | `(tactic| size_fits) => `(tactic| (refine fits_ints (by assumption) ?_; first | omega | fail "m: no length"))
local macro_rules | `(tactic| walk_at "exec While Compare cons nil") => `(tactic| (k_here; with_reducible refine Rest.mk ?_))
local macro_rules | `(tactic| walk_at "m steps") => `(tactic| repeat' (first | (k_unfold; (try dsimp only)) | walk1 | (dsimp only; first | (k_unfold; (try dsimp only)) | walk1) | (k_unmd; k_unfold; (try dsimp only))))
local macro_rules | `(tactic| kst_facts) => `(tactic| ((try dsimp only); first | exact IntsAre.nil | exact True.intro | assumption | exact IntsAre.append (by assumption) (.cons _ _ .nil)))
local macro_rules | `(tactic| walk_at "exec While BoolOp cons nil") => `(tactic| (k_here; with_reducible refine Rest.mk ?_))
local macro_rules | `(tactic| walk_at "call ref") => `(tactic| (k_here; with_reducible refine Rest.mk ?_))
local macro_rules | `(tactic| walk_at "m ctx") => `(tactic| ((case kB => assumption); (case kF => assumption); (case kN => assumption); (case kX => assumption); (case kT => assumption); (case hf => exact rfl); (case hk => exact rfl); (case hd => ((try dsimp only [around, Around.deeper]); omega)); (case hu => ((try dsimp only [around, Around.deeper]); omega))))
local macro_rules | `(tactic| walk_at "exec For Tuple Call cons nil") => `(tactic| (k_here; with_reducible refine Rest.mk ?_))
local macro_rules | `(tactic| walk_at "call type:enumerate") => `(tactic| (k_here; with_reducible refine Rest.mk ?_))

theorem sv_neg {B : Int} {c : Bool} {ms : List Int} : sv B (sgn (!c) ms) ms = -sv B c ms := by
  cases ms with
  | nil => cases c <;> simp [sv, val]
  | cons x r =>
    have e : sgn (!c) (x :: r) = !c := by simp [sgn]
    rw [e]
    cases c <;> simp [sv]
theorem sv_mul {B P : Int} {b : Bool} {ns : List Int} : (if b then -(val B ns * P) else val B ns * P) = sv B b ns * P := by
  unfold sv; cases b <;> simp [Int.neg_mul]
theorem shift_len {B : Int} {ns rs : List Int} {n : Nat} (hB : 8 ≤ B) (ca : Can B ns) (hna : ns.length ≤ 60) (hn : n ≤ 6) (cr : Can B rs) (hv : val B rs = val B ns * 2 ^ n) : rs.length ≤ 62 := by
  refine cr.len_le (by omega) ?_
  have h1 := val_lt (show 2 ≤ B by omega) ca.lim
  have h2 := val_nonneg (show 2 ≤ B by omega) ca.lim
  have h3 := ipow_le (show 2 ≤ B by omega) hna
  have h4 : (2 : Int) ^ n ≤ 64 := ipow_le (show (2 : Int) ≤ 2 by decide) hn
  have h5 := Int.mul_le_mul_of_nonneg_left h4 h2
  have h6 := ipow_pos (show 2 ≤ B by omega) 60
  have h7 := Int.mul_le_mul hB hB (by omega) (by omega)
  have h8 := Int.mul_le_mul_of_nonneg_left h7 (Int.le_of_lt h6)
  rw [Int.pow_succ, Int.pow_succ, Int.mul_assoc, hv]
  omega
set_option maxHeartbeats 1000000 in
theorem s_sub_says (w : World) (mean : ExcName → Option Value) (mg mb : Str → Option Value) (h : Heap) (x y : Addr) (b c : Bool) (la lb : Addr) (vs us : List Value) (ns ms : List Int) (W : Int) (u : Tok) (hx : IsTup h x #[.bool b, .ref la]) (hy : IsTup h y #[.bool c, .ref lb])
    (hla : h.IsList la vs.toArray) (hia : IntsAre vs ns) (hlb : h.IsList lb us.toArray) (hib : IntsAre us ms) (hna : ns.length ≤ 60) (hnb : ms.length ≤ 60) (hW : 3 ≤ W) (hW2 : W ≤ 8) (ca : Can (2 ^ W.toNat) ns) (cb : Can (2 ^ W.toNat) ms) :
    Says w mean mg mb 210 [.ref x, .ref y, .int W u] 5 32 h (PPair h fun b' rs => SOk (2 ^ W.toNat) b' rs ∧ sv (2 ^ W.toNat) b' rs = sv (2 ^ W.toNat) b ns - sv (2 ^ W.toNat) c ms) := by
  unfold Says
  k_fill
  intro dp un gd env outer A₀ base h₀ L m s Q E hsh B F X T hf hk hdp hun ret
  subst hsh
  refine wpAny_call ?_
  refine' enter_pure (binds := [(Str.ofString "x", .ref x), (Str.ofString "y", .ref y), (Str.ofString "w", .int W u)]) ?k1 ?k2 ?k3 ?k5 ?kA ?kF ?kK ?k6 ?k7 ?k8 ?k9 ?kB ?_ ?c2 ?c3 ?c4 ?c5
  walk_at "m enter"
  walk_at "m steps"
  refine Rest.out ?_
  refine' Says.useTup (s_neg_says w mean mg mb _ y c lb us ms (Fr.tup (by assumption) hy) (by is_list) hib (by omega)) ?kB ?kF ?kN ?kX ?kT ?hf ?hk ?hd ?hu ?_
  walk_at "m ctx"
  intro cT cC cH cTk cF cN cD
  (try dsimp only)
  (try k_fold)
  walk_at "m steps"
  refine Rest.out ?_
  refine' Says.usePair (s_add_says w mean mg mb _ x cT b (sgn (!c) ms) la lb vs us ns ms W u (Fr.tup (by assumption) hx) (News.isTup cN (.head _)) (by is_list) hia (by is_list) hib hna hnb hW hW2 ca cb) ?kB ?kF ?kN ?kX ?kT ?hf ?hk ?hd ?hu ?_
  walk_at "m ctx"
  intro cT2 cL2 cB2 cU2 cC2 cC22 cNs2 cH2 cTk2 cF2 cN2 cD2 cD22 cI2 cP2
  (try dsimp only)
  (try k_fold)
  walk_at "m steps"
  refine ret _ _ _ (Fr.keep (by assumption)) (pair_end cN2 (.head _) (.tail _ (.head _)) cI2 ?_)
  exact ⟨cP2.1, cP2.2.trans (by rw [sv_neg]; omega)⟩
set_option maxHeartbeats 1000000 in
theorem s_shift_says (w : World) (mean : ExcName → Option Value) (mg mb : Str → Option Value) (h : Heap) (x : Addr) (b : Bool) (la : Addr) (vs : List Value) (ns : List Int) (n W : Int) (t u : Tok) (hx : IsTup h x #[.bool b, .ref la])
    (hla : h.IsList la vs.toArray) (hia : IntsAre vs ns) (hna : ns.length ≤ 60) (h0 : 0 ≤ n) (hn : n ≤ 6) (hW : 3 ≤ W) (hW2 : W ≤ 8) (ca : Can (2 ^ W.toNat) ns) :
    Says w mean mg mb 217 [.ref x, .int n t, .int W u] 4 24 h (PPair h fun b' rs => SOk (2 ^ W.toNat) b' rs ∧ sv (2 ^ W.toNat) b' rs = sv (2 ^ W.toNat) b ns * 2 ^ n.toNat) := by
  unfold Says
  k_fill
  intro dp un gd env outer A₀ base h₀ L m s Q E hsh B F X T hf hk hdp hun ret
  subst hsh
  have hB := two_pow_ge hW
  refine wpAny_call ?_
  refine' enter_pure (binds := [(Str.ofString "x", .ref x), (Str.ofString "n", .int n t), (Str.ofString "w", .int W u)]) ?k1 ?k2 ?k3 ?k5 ?kA ?kF ?kK ?k6 ?k7 ?k8 ?k9 ?kB ?_ ?c2 ?c3 ?c4 ?c5
  walk_at "m enter"
  walk_at "m steps"
  refine Rest.out ?_
  refine' Says.useList (shift_left_says w mean mg mb _ la vs ns n W t u (by is_list) hia hna h0 hn hW hW2 ca) ?kB ?kF ?kN ?kX ?kT ?hf ?hk ?hd ?hu ?_
  walk_at "m ctx"
  intro cL cU cC cNs cH cTk cF cN cD cI cP
  (try dsimp only)
  (try k_fold)
  have hl := shift_len hB ca hna (by omega) cP.1 cP.2
  walk_at "m steps"
  refine Rest.out ?_
  refine' Says.useTup (signed_says w mean mg mb _ _ _ _ _ (by is_list) cI (by omega)) ?kB ?kF ?kN ?kX ?kT ?hf ?hk ?hd ?hu ?_
  walk_at "m ctx"
  intro cT2 cC2 cH2 cTk2 cF2 cN2 cD2
  (try dsimp only)
  (try k_fold)
  walk_at "m steps"
  refine ret _ _ _ (Fr.keep (by assumption)) (pair_end (by assumption) (.head _) (.tail _ (.head _)) cI ?_)
  have h1 := sgn_ok (b := b) cP.1 cP.2
  exact ⟨h1.1, h1.2.trans sv_mul⟩

end Mine
end FSSub
section FOnes
namespace Mine
theorem fresh_FOnes : True := by
  k_with_none
  w_top off
  trivial
open PySem PySem.W PySem.Spec PySem.Calls PyProof.Rows
local macro_rules | `(tactic| walk_at "m enter") => `(tactic| (
  (case kA => exact rfl); (case kF => assumption); (case kK => assumption); (case k1 => assumption); (case k2 => assumption); (case k3 => assumption); (case k5 => assumption); (case k6 => k_is); (case k7 => k_is); (case k8 => ((try dsimp only [around]); omega)); (case k9 => exact BindsTo.of_eq rfl); (case c5 => decide); (case kB => exact locs rfl); (case c2 => exact rfl); (case c3 => exact rfl); (case c4 => exact rfl); k_whole; intro L' h' F' N' B' X' T'; (try dsimp only); (try k_fold)))
local macro_rules | `(tactic| size_fits) => `(tactic| (refine fits_ints (by assumption) ?_; first | omega | fail "m: no length"))
local macro_rules | `(tactic| walk_at "exec While Compare cons nil") => `(tactic| (k_here; with_reducible refine Rest.mk ?_))
local macro_rules | `(tactic| walk_at "m steps") => `(tactic| repeat' (first | (k_unfold; (try dsimp only)) | walk1 | (dsimp only; first | (k_unfold; (try dsimp only)) | walk1) | (k_unmd; k_unfold; (try dsimp only))))
local macro_rules | `(tactic| kst_facts) => `(tactic| ((try dsimp only); first | exact IntsAre.nil | exact True.intro | assumption | exact IntsAre.append (by assumption) (.cons _ _ .nil)))
local macro_rules | `(tactic| walk_at "exec While BoolOp cons nil") => `(tactic| (k_here; with_reducible refine Rest.mk ?_))
local macro_rules | `(tactic| walk_at "call ref") => `(tactic| (k_here; with_reducible refine Rest.mk ?_))
local macro_rules | `(tactic| walk_at "m ctx") => `(tactic| ((case kB => assumption); (case kF => assumption); (case kN => assumption); (case kX => assumption); (case kT => assumption); (case hf => exact rfl); (case hk => exact rfl); (case hd => ((try dsimp only [around, Around.deeper]); omega)); (case hu => ((try dsimp only [around, Around.deeper]); omega))))
local macro_rules | `(tactic| walk_at "exec For Tuple Call cons nil") => `(tactic| (k_here; with_reducible refine Rest.mk ?_))
local macro_rules | `(tactic| walk_at "call type:enumerate") => `(tactic| (k_here; with_reducible refine Rest.mk ?_))

local macro_rules | `(tactic| walk_at "eval ListComp") => `(tactic| (k_here; with_reducible refine Rest.mk ?_))
theorem flat_ints {f : Int → Int} : ∀ {ys : List Value} {ns : List Int}, CarriedAll ys ((ns.filter fun _ => true).map fun x => PyData.int (f x)) → IntsAre ys (ns.map f) := by
  intro ys ns h
  rw [List.filter_eq_self.mpr (fun _ _ => rfl)] at h
  exact CarriedAll.intsOf h
theorem comp_ints {prog : Program} {w : World} {A : Around} {E : Value → Shared → Prop} {s : Shared} {h₀ : Heap} {L : Addr} {m : Str → Option Value} {env : Env} {elt iter : Expr} {x : Str} {px : Pos} {scope : Scope} {pos : Pos} {Q : Value → Shared → Prop} {ax : Addr} {vs : List Value} {ns : List Int} {news : List (Addr × Obj)} (f : Int → Int)
    (F : Fr h₀ L s.heap m) (N : News h₀ L s.heap news) (hl : s.heap.IsList ax vs.toArray) (hi : IntsAre vs ns) (hsz : ns.length ≤ 1000)
    (hit : wpAny (model prog w) A (eval iter env) (fun xv s₁ => xv = .ref ax ∧ s₁ = s) E s)
    (helt : ∀ C a t s₂ m₂ E', a ∈ ns → s₂.heap.Ns (compEnvC scope [] C env).locals m₂ → m₂ x = some (.int a t) → Fr h₀ L s₂.heap m → News h₀ L s₂.heap news →
        wpAny (model prog w) A (eval elt (compEnvC scope [] C env)) (fun y s₃ => (∃ t, y = .int (f a) t) ∧ Keeps s₂ s₃) E' s₂)
    (hQ : ∀ D (ys : List Value) c h' tk, Fr h₀ L h' m → News h₀ L h' ((D, listOf ys.toArray c) :: news) → IntsAre ys (ns.map f) → Q (.ref D) { s with heap := h', toks := tk })
    (hh : A.handled = none) (hclos : closureFor scope env = pure []) (hcell : ∀ y ∈ scope.names, y.2 ≠ .cell) (hkind : scope.kind = .function)
    (hnames : ∀ y ∈ scope.names, y.2 = .local → scope.names.lookup y.1 = some .local) (hx : scope.names.lookup x = some .local) (hs : ∀ x, foldedSetIterable iter env x = pure x) :
    wpAny (model prog w) A (eval (.ListComp elt [⟨.Name x px, iter, [], 0⟩] scope pos) env) Q E s := by
  refine ListComp_DCn (h₀ := h₀) (L := L) (m := m) (K := ItemKind.int) (cl := []) (pz := fun _ => true) (d := fun x => PyData.int (f x)) hh hclos hcell hkind hnames hx (wpAny_mono hit (fun xv s₁ h₁ => ?_) fun _ _ e => e) hs
  obtain ⟨rfl, rfl⟩ := h₁
  refine ⟨news, ax, vs, ns, rfl, hl, hi.areOf, by rw [sizeLine_eq]; omega, F, N, ?_, ?_, ?_⟩
  · intro C a v s₂ m₂ E' _ _ _ _ _ hk
    exact wpAny_pure ⟨rfl, s₂.heap, s₂.toks, rfl, fun _ _ e => e⟩
  · intro C a v s₂ m₂ E' hC ha hv _ hns hm hk
    obtain ⟨t, rfl⟩ := hv
    refine wpAny_mono (helt C a t s₂ m₂ E' ha hns hm (F.keeps hk) (N.grown hk)) (fun y s₃ h₃ => ?_) fun _ _ e => e
    obtain ⟨⟨t, rfl⟩, h₃⟩ := h₃
    exact ⟨.int _ t, h₃⟩
  · intro D ys h' tk F2 N2 hD hl2 hpl hc
    obtain ⟨c, e⟩ := hpl.1
    refine hQ D ys c h' tk F2 (fun p hp => ?_) (flat_ints hc)
    rcases List.mem_cons.mp hp with rfl | hp
    · exact ⟨e, hpl.ne_locals F2, hD⟩
    · exact N2 p hp
set_option maxHeartbeats 1000000 in
theorem nat_ones_says (w : World) (mean : ExcName → Option Value) (mg mb : Str → Option Value) (h : Heap) (la : Addr) (vs : List Value) (ns : List Int) (hla : h.IsList la vs.toArray) (hia : IntsAre vs ns) (hna : ns.length ≤ 60) (hn : ∀ x ∈ ns, 0 ≤ x ∧ x < 16) :
    Says w mean mg mb 26 [.ref la] 4 24 h (PInt fun k => k = (ns.map fun x => (pop x.toNat : Int)).sum) := by
  unfold Says
  k_fill
  intro dp un gd env outer A₀ base h₀ L m s Q E hsh B F X T hf hk hdp hun ret
  subst hsh
  refine wpAny_call ?_
  refine' enter_pure (binds := [(Str.ofString "a", .ref la)]) ?k1 ?k2 ?k3 ?k5 ?kA ?kF ?kK ?k6 ?k7 ?k8 ?k9 ?kB ?_ ?c2 ?c3 ?c4 ?c5
  walk_at "m enter"
  walk_at "m steps"
  refine Rest.out ?_
  rename Fr _ _ _ _ => F1
  rename News _ _ _ _ => N1
  refine comp_ints (fun x => (pop x.toNat : Nat)) F1 N1 (by is_list) hia (by omega) ?_ ?_ ?_ (by with_unfolding_all rfl) (by with_unfolding_all rfl) (by decide) (by with_unfolding_all rfl) (by decide) (by with_unfolding_all rfl) (by intro _; with_unfolding_all rfl)
  · walk_at "m steps"
    all_goals exact ⟨rfl, rfl⟩
  · clear F1 N1
    intro C a v s₂ m₂ E' ha hns hm F2 N2
    have hx := hn a ha
    walk_at "m steps"
    refine Rest.out ?_
    refine' Says.use (limb_ones_says w mean mg mb _ a v hx.1 hx.2) ?kB ?kF ?kN ?kX ?kT ?hf ?hk ?hd ?hu ?_
    walk_at "m ctx"
    rintro r h3 tk3 F3 N3 k3 ⟨k, t, rfl, rfl⟩
    exact ⟨⟨t, rfl⟩, _, _, rfl, k3⟩
  · clear F1 N1
    intro D ys c h' tk F2 N2 hi2
    walk_at "m steps"
    exact ret _ _ _ (Fr.keep (by assumption)) ⟨_, _, rfl, rfl⟩
set_option maxHeartbeats 1000000 in
theorem count_ones_says (w : World) (mean : ExcName → Option Value) (mg mb : Str → Option Value) (h : Heap) (x la : Addr) (vs : List Value) (ns : List Int) (hx : IsTup h x #[.bool false, .ref la]) (hla : h.IsList la vs.toArray) (hia : IntsAre vs ns) (hna : ns.length ≤ 60) (hn : ∀ x ∈ ns, 0 ≤ x ∧ x < 16) :
    Says w mean mg mb 33 [.ref x] 5 32 h (PInt fun k => k = (ns.map fun x => (pop x.toNat : Int)).sum) := by
  unfold Says
  k_fill
  intro dp un gd env outer A₀ base h₀ L m s Q E hsh B F X T hf hk hdp hun ret
  subst hsh
  refine wpAny_call ?_
  refine' enter_pure (binds := [(Str.ofString "x", .ref x)]) ?k1 ?k2 ?k3 ?k5 ?kA ?kF ?kK ?k6 ?k7 ?k8 ?k9 ?kB ?_ ?c2 ?c3 ?c4 ?c5
  walk_at "m enter"
  walk_at "m steps"
  refine Rest.out ?_
  refine' Says.useInt (nat_ones_says w mean mg mb _ la vs ns (by is_list) hia hna hn) ?kB ?kF ?kN ?kX ?kT ?hf ?hk ?hd ?hu ?_
  walk_at "m ctx"
  intro cK cT cH cTk cF cN cP
  (try dsimp only)
  (try k_fold)
  walk_at "m steps"
  exact ret _ _ _ (Fr.keep (by assumption)) ⟨_, _, rfl, cP⟩

end Mine
end FOnes
section FPower
namespace Mine
theorem fresh_FPower : True := by
  k_with_none
  w_top off
  trivial
open PySem PySem.W PySem.Spec PySem.Calls PyProof.Rows
local macro_rules | `(tactic| walk_at "m enter") => `(tactic| (
  (case kA => exact rfl); (case kF => assumption); (case kK => assumption); (case k1 => assumption); (case k2 => assumption); (case k3 => assumption); (case k5 => assumption); (case k6 => k_is); (case k7 => k_is); (case k8 => ((try dsimp only [around]); omega)); (case k9 => exact BindsTo.of_eq rfl); (case c5 => decide); (case kB => exact locs rfl); (case c2 => exact rfl); (case c3 => exact rfl); (case c4 => exact rfl); k_whole; intro L' h' F' N' B' X' T'; (try dsimp only); (try k_fold)))
local macro_rules | `(tactic| size_fits) => `(tactic| (refine fits_ints (by assumption) ?_; first | omega | fail "m: no length"))
local macro_rules | `(tactic| walk_at "exec While Compare cons nil") => `(tactic| (k_here; with_reducible refine Rest.mk ?_))
local macro_rules | `(tactic| walk_at "m steps") => `(tactic| repeat' (first | (k_unfold; (try dsimp only)) | walk1 | (dsimp only; first | (k_unfold; (try dsimp only)) | walk1) | (k_unmd; k_unfold; (try dsimp only))))
local macro_rules | `(tactic| kst_facts) => `(tactic| ((try dsimp only); first | exact IntsAre.nil | exact True.intro | assumption | exact IntsAre.append (by assumption) (.cons _ _ .nil)))
local macro_rules | `(tactic| walk_at "exec While BoolOp cons nil") => `(tactic| (k_here; with_reducible refine Rest.mk ?_))
local macro_rules | `(tactic| walk_at "call ref") => `(tactic| (k_here; with_reducible refine Rest.mk ?_))
local macro_rules | `(tactic| walk_at "m ctx") => `(tactic| ((case kB => assumption); (case kF => assumption); (case kN => assumption); (case kX => assumption); (case kT => assumption); (case hf => exact rfl); (case hk => exact rfl); (case hd => ((try dsimp only [around, Around.deeper]); omega)); (case hu => ((try dsimp only [around, Around.deeper]); omega))))
local macro_rules | `(tactic| walk_at "exec For Tuple Call cons nil") => `(tactic| (k_here; with_reducible refine Rest.mk ?_))
local macro_rules | `(tactic| walk_at "call type:enumerate") => `(tactic| (k_here; with_reducible refine Rest.mk ?_))

theorem pow_one' (v : Int) : v ^ 1 = v := by rw [Int.pow_succ, Int.pow_zero, Int.one_mul]
theorem pow_le_left {v u : Int} (v0 : 0 ≤ v) (h : v ≤ u) : ∀ i : Nat, 0 ≤ v ^ i ∧ v ^ i ≤ u ^ i
  | 0 => by simp
  | i + 1 => by
    rw [Int.pow_succ, Int.pow_succ]
    have h1 := pow_le_left v0 h i
    exact ⟨Int.mul_nonneg h1.1 v0, Int.mul_le_mul h1.2 h v0 (by omega)⟩
theorem pw_one {B : Int} (hB : 8 ≤ B) {v : Int} : Can B [1] ∧ val B [1] = v ^ 0 := ⟨⟨.one (by omega) (by omega), fun _ => by simp [val]⟩, by simp [val]⟩
theorem pw_mul {B v : Int} {i j : Nat} {x y r : List Int} (h : Can B r ∧ val B r = val B x * val B y) (hx : Can B x ∧ val B x = v ^ i) (hy : Can B y ∧ val B y = v ^ j) : Can B r ∧ val B r = v ^ (i + j) := ⟨h.1, by rw [h.2, hx.2, hy.2, Int.pow_add]⟩
theorem pw_len {B v : Int} {i : Nat} {x : List Int} (hB : 8 ≤ B) (h : Can B x ∧ val B x = v ^ i) (v0 : 0 ≤ v) (v1 : v ≤ 24) (hi : i ≤ 4) : x.length ≤ 60 := by
  refine h.1.len_le8 hB ?_
  rw [h.2]
  have h1 : v ^ i ≤ 24 ^ i := (pow_le_left v0 v1 i).2
  have h2 : (24 : Int) ^ i ≤ 24 ^ 4 := ipow_le (by decide) hi
  have h3 : (24 : Int) ^ 4 < 8 ^ 60 := by decide
  omega
set_option maxHeartbeats 1000000 in
theorem power0_says (w : World) (mean : ExcName → Option Value) (mg mb : Str → Option Value) (h : Heap) (la : Addr) (vs : List Value) (ns : List Int) (W : Int) (t u : Tok) (hla : h.IsList la vs.toArray) (hia : IntsAre vs ns)
    (hna : ns.length ≤ 60) (hW : 3 ≤ W) (hW2 : W ≤ 8) (ca : Can (2 ^ W.toNat) ns) (hv : val (2 ^ W.toNat) ns ≤ 24) :
    Says w mean mg mb 175 [.ref la, .int 0 t, .int W u, .ref 182] 4 24 h (PList h fun rs => Can (2 ^ W.toNat) rs ∧ val (2 ^ W.toNat) rs = val (2 ^ W.toNat) ns ^ 0) := by
  unfold Says
  k_fill
  intro dp un gd env outer A₀ base h₀ L m s Q E hsh B F X T hf hk hdp hun ret
  subst hsh
  have hB := two_pow_ge hW
  have v0 := val_nonneg (show 2 ≤ (2 : Int) ^ W.toNat by omega) ca.lim
  have pa : Can (2 ^ W.toNat) ns ∧ val (2 ^ W.toNat) ns = val (2 ^ W.toNat) ns ^ 1 := ⟨ca, (pow_one' _).symm⟩
  have p0 := pw_one hB (v := val (2 ^ W.toNat) ns)
  refine wpAny_call ?_
  refine' enter_pure (binds := [(Str.ofString "a", .ref la), (Str.ofString "n", .int 0 t), (Str.ofString "w", .int W u), (Str.ofString "mul", .ref 182)]) ?k1 ?k2 ?k3 ?k5 ?kA ?kF ?kK ?k6 ?k7 ?k8 ?k9 ?kB ?_ ?c2 ?c3 ?c4 ?c5
  walk_at "m enter"
  walk_at "m steps"
  refine ret _ _ _ (Fr.keep (by assumption)) (list_end (by assumption) (by repeat (first | exact .head _ | refine .tail _ ?_)) (.cons _ _ .nil) ?_)
  exact p0
set_option maxHeartbeats 1000000 in
theorem power1_says (w : World) (mean : ExcName → Option Value) (mg mb : Str → Option Value) (h : Heap) (la : Addr) (vs : List Value) (ns : List Int) (W : Int) (t u : Tok) (hla : h.IsList la vs.toArray) (hia : IntsAre vs ns)
    (hna : ns.length ≤ 60) (hW : 3 ≤ W) (hW2 : W ≤ 8) (ca : Can (2 ^ W.toNat) ns) (hv : val (2 ^ W.toNat) ns ≤ 24) :
    Says w mean mg mb 175 [.ref la, .int 1 t, .int W u, .ref 182] 4 24 h (PList h fun rs => Can (2 ^ W.toNat) rs ∧ val (2 ^ W.toNat) rs = val (2 ^ W.toNat) ns ^ 1) := by
  unfold Says
  k_fill
  intro dp un gd env outer A₀ base h₀ L m s Q E hsh B F X T hf hk hdp hun ret
  subst hsh
  have hB := two_pow_ge hW
  have v0 := val_nonneg (show 2 ≤ (2 : Int) ^ W.toNat by omega) ca.lim
  have pa : Can (2 ^ W.toNat) ns ∧ val (2 ^ W.toNat) ns = val (2 ^ W.toNat) ns ^ 1 := ⟨ca, (pow_one' _).symm⟩
  have p0 := pw_one hB (v := val (2 ^ W.toNat) ns)
  refine wpAny_call ?_
  refine' enter_pure (binds := [(Str.ofString "a", .ref la), (Str.ofString "n", .int 1 t), (Str.ofString "w", .int W u), (Str.ofString "mul", .ref 182)]) ?k1 ?k2 ?k3 ?k5 ?kA ?kF ?kK ?k6 ?k7 ?k8 ?k9 ?kB ?_ ?c2 ?c3 ?c4 ?c5
  walk_at "m enter"
  walk_at "m steps"
  refine Rest.out ?_
  refine' Says.useList (mul_says w mean mg mb _ _ _ _ _ _ _ W u (by is_list) (.cons _ _ .nil) (by is_list) (.cons _ _ .nil) (pw_len hB p0 v0 hv (by omega)) (pw_len hB p0 v0 hv (by omega)) hW hW2 p0.1.lim p0.1.lim) ?kB ?kF ?kN ?kX ?kT ?hf ?hk ?hd ?hu ?_
  walk_at "m ctx"
  intro cL1 cU1 cC1 cNs1 cH1 cTk1 cF1 cN1 cD1 cI1 cP1
  (try dsimp only)
  (try k_fold)
  have p1 := pw_mul cP1 p0 p0
  walk_at "m steps"
  refine Rest.out ?_
  refine' Says.useList (mul_says w mean mg mb _ _ la _ vs _ _ W u (by is_list) cI1 (by is_list) hia (pw_len hB p1 v0 hv (by omega)) (pw_len hB pa v0 hv (by omega)) hW hW2 p1.1.lim pa.1.lim) ?kB ?kF ?kN ?kX ?kT ?hf ?hk ?hd ?hu ?_
  walk_at "m ctx"
  intro cL2 cU2 cC2 cNs2 cH2 cTk2 cF2 cN2 cD2 cI2 cP2
  (try dsimp only)
  (try k_fold)
  have p2 := pw_mul cP2 p1 pa
  walk_at "m steps"
  refine ret _ _ _ (Fr.keep (by assumption)) (list_end (by assumption) (by repeat (first | exact .head _ | refine .tail _ ?_)) cI2 ?_)
  exact p2
set_option maxHeartbeats 1000000 in
theorem power2_says (w : World) (mean : ExcName → Option Value) (mg mb : Str → Option Value) (h : Heap) (la : Addr) (vs : List Value) (ns : List Int) (W : Int) (t u : Tok) (hla : h.IsList la vs.toArray) (hia : IntsAre vs ns)
    (hna : ns.length ≤ 60) (hW : 3 ≤ W) (hW2 : W ≤ 8) (ca : Can (2 ^ W.toNat) ns) (hv : val (2 ^ W.toNat) ns ≤ 24) :
    Says w mean mg mb 175 [.ref la, .int 2 t, .int W u, .ref 182] 4 24 h (PList h fun rs => Can (2 ^ W.toNat) rs ∧ val (2 ^ W.toNat) rs = val (2 ^ W.toNat) ns ^ 2) := by
  unfold Says
  k_fill
  intro dp un gd env outer A₀ base h₀ L m s Q E hsh B F X T hf hk hdp hun ret
  subst hsh
  have hB := two_pow_ge hW
  have v0 := val_nonneg (show 2 ≤ (2 : Int) ^ W.toNat by omega) ca.lim
  have pa : Can (2 ^ W.toNat) ns ∧ val (2 ^ W.toNat) ns = val (2 ^ W.toNat) ns ^ 1 := ⟨ca, (pow_one' _).symm⟩
  have p0 := pw_one hB (v := val (2 ^ W.toNat) ns)
  refine wpAny_call ?_
  refine' enter_pure (binds := [(Str.ofString "a", .ref la), (Str.ofString "n", .int 2 t), (Str.ofString "w", .int W u), (Str.ofString "mul", .ref 182)]) ?k1 ?k2 ?k3 ?k5 ?kA ?kF ?kK ?k6 ?k7 ?k8 ?k9 ?kB ?_ ?c2 ?c3 ?c4 ?c5
  walk_at "m enter"
  walk_at "m steps"
  refine Rest.out ?_
  refine' Says.useList (mul_says w mean mg mb _ _ _ _ _ _ _ W u (by is_list) (.cons _ _ .nil) (by is_list) (.cons _ _ .nil) (pw_len hB p0 v0 hv (by omega)) (pw_len hB p0 v0 hv (by omega)) hW hW2 p0.1.lim p0.1.lim) ?kB ?kF ?kN ?kX ?kT ?hf ?hk ?hd ?hu ?_
  walk_at "m ctx"
  intro cL1 cU1 cC1 cNs1 cH1 cTk1 cF1 cN1 cD1 cI1 cP1
  (try dsimp only)
  (try k_fold)
  have p1 := pw_mul cP1 p0 p0
  walk_at "m steps"
  refine Rest.out ?_
  refine' Says.useList (mul_says w mean mg mb _ _ la _ vs _ _ W u (by is_list) cI1 (by is_list) hia (pw_len hB p1 v0 hv (by omega)) (pw_len hB pa v0 hv (by omega)) hW hW2 p1.1.lim pa.1.lim) ?kB ?kF ?kN ?kX ?kT ?hf ?hk ?hd ?hu ?_
  walk_at "m ctx"
  intro cL2 cU2 cC2 cNs2 cH2 cTk2 cF2 cN2 cD2 cI2 cP2
  (try dsimp only)
  (try k_fold)
  have p2 := pw_mul cP2 p1 pa
  walk_at "m steps"
  refine Rest.out ?_
  refine' Says.useList (mul_says w mean mg mb _ _ _ _ _ _ _ W u (by is_list) cI2 (by is_list) cI2 (pw_len hB p2 v0 hv (by omega)) (pw_len hB p2 v0 hv (by omega)) hW hW2 p2.1.lim p2.1.lim) ?kB ?kF ?kN ?kX ?kT ?hf ?hk ?hd ?hu ?_
  walk_at "m ctx"
  intro cL3 cU3 cC3 cNs3 cH3 cTk3 cF3 cN3 cD3 cI3 cP3
  (try dsimp only)
  (try k_fold)
  have p3 := pw_mul cP3 p2 p2
  walk_at "m steps"
  refine ret _ _ _ (Fr.keep (by assumption)) (list_end (by assumption) (by repeat (first | exact .head _ | refine .tail _ ?_)) cI3 ?_)
  exact p3
set_option maxHeartbeats 1000000 in
theorem power3_says (w : World) (mean : ExcName → Option Value) (mg mb : Str → Option Value) (h : Heap) (la : Addr) (vs : List Value) (ns : List Int) (W : Int) (t u : Tok) (hla : h.IsList la vs.toArray) (hia : IntsAre vs ns)
    (hna : ns.length ≤ 60) (hW : 3 ≤ W) (hW2 : W ≤ 8) (ca : Can (2 ^ W.toNat) ns) (hv : val (2 ^ W.toNat) ns ≤ 24) :
    Says w mean mg mb 175 [.ref la, .int 3 t, .int W u, .ref 182] 4 24 h (PList h fun rs => Can (2 ^ W.toNat) rs ∧ val (2 ^ W.toNat) rs = val (2 ^ W.toNat) ns ^ 3) := by
  unfold Says
  k_fill
  intro dp un gd env outer A₀ base h₀ L m s Q E hsh B F X T hf hk hdp hun ret
  subst hsh
  have hB := two_pow_ge hW
  have v0 := val_nonneg (show 2 ≤ (2 : Int) ^ W.toNat by omega) ca.lim
  have pa : Can (2 ^ W.toNat) ns ∧ val (2 ^ W.toNat) ns = val (2 ^ W.toNat) ns ^ 1 := ⟨ca, (pow_one' _).symm⟩
  have p0 := pw_one hB (v := val (2 ^ W.toNat) ns)
  refine wpAny_call ?_
  refine' enter_pure (binds := [(Str.ofString "a", .ref la), (Str.ofString "n", .int 3 t), (Str.ofString "w", .int W u), (Str.ofString "mul", .ref 182)]) ?k1 ?k2 ?k3 ?k5 ?kA ?kF ?kK ?k6 ?k7 ?k8 ?k9 ?kB ?_ ?c2 ?c3 ?c4 ?c5
  walk_at "m enter"
  walk_at "m steps"
  refine Rest.out ?_
  refine' Says.useList (mul_says w mean mg mb _ _ _ _ _ _ _ W u (by is_list) (.cons _ _ .nil) (by is_list) (.cons _ _ .nil) (pw_len hB p0 v0 hv (by omega)) (pw_len hB p0 v0 hv (by omega)) hW hW2 p0.1.lim p0.1.lim) ?kB ?kF ?kN ?kX ?kT ?hf ?hk ?hd ?hu ?_
  walk_at "m ctx"
  intro cL1 cU1 cC1 cNs1 cH1 cTk1 cF1 cN1 cD1 cI1 cP1
  (try dsimp only)
  (try k_fold)
  have p1 := pw_mul cP1 p0 p0
  walk_at "m steps"
  refine Rest.out ?_
  refine' Says.useList (mul_says w mean mg mb _ _ la _ vs _ _ W u (by is_list) cI1 (by is_list) hia (pw_len hB p1 v0 hv (by omega)) (pw_len hB pa v0 hv (by omega)) hW hW2 p1.1.lim pa.1.lim) ?kB ?kF ?kN ?kX ?kT ?hf ?hk ?hd ?hu ?_
  walk_at "m ctx"
  intro cL2 cU2 cC2 cNs2 cH2 cTk2 cF2 cN2 cD2 cI2 cP2
  (try dsimp only)
  (try k_fold)
  have p2 := pw_mul cP2 p1 pa
  walk_at "m steps"
  refine Rest.out ?_
  refine' Says.useList (mul_says w mean mg mb _ _ _ _ _ _ _ W u (by is_list) cI2 (by is_list) cI2 (pw_len hB p2 v0 hv (by omega)) (pw_len hB p2 v0 hv (by omega)) hW hW2 p2.1.lim p2.1.lim) ?kB ?kF ?kN ?kX ?kT ?hf ?hk ?hd ?hu ?_
  walk_at "m ctx"
  intro cL3 cU3 cC3 cNs3 cH3 cTk3 cF3 cN3 cD3 cI3 cP3
  (try dsimp only)
  (try k_fold)
  have p3 := pw_mul cP3 p2 p2
  walk_at "m steps"
  refine Rest.out ?_
  refine' Says.useList (mul_says w mean mg mb _ _ la _ vs _ _ W u (by is_list) cI3 (by is_list) hia (pw_len hB p3 v0 hv (by omega)) (pw_len hB pa v0 hv (by omega)) hW hW2 p3.1.lim pa.1.lim) ?kB ?kF ?kN ?kX ?kT ?hf ?hk ?hd ?hu ?_
  walk_at "m ctx"
  intro cL4 cU4 cC4 cNs4 cH4 cTk4 cF4 cN4 cD4 cI4 cP4
  (try dsimp only)
  (try k_fold)
  have p4 := pw_mul cP4 p3 pa
  walk_at "m steps"
  refine ret _ _ _ (Fr.keep (by assumption)) (list_end (by assumption) (by repeat (first | exact .head _ | refine .tail _ ?_)) cI4 ?_)
  exact p4
set_option maxHeartbeats 1000000 in
theorem power4_says (w : World) (mean : ExcName → Option Value) (mg mb : Str → Option Value) (h : Heap) (la : Addr) (vs : List Value) (ns : List Int) (W : Int) (t u : Tok) (hla : h.IsList la vs.toArray) (hia : IntsAre vs ns)
    (hna : ns.length ≤ 60) (hW : 3 ≤ W) (hW2 : W ≤ 8) (ca : Can (2 ^ W.toNat) ns) (hv : val (2 ^ W.toNat) ns ≤ 24) :
    Says w mean mg mb 175 [.ref la, .int 4 t, .int W u, .ref 182] 4 24 h (PList h fun rs => Can (2 ^ W.toNat) rs ∧ val (2 ^ W.toNat) rs = val (2 ^ W.toNat) ns ^ 4) := by
  unfold Says
  k_fill
  intro dp un gd env outer A₀ base h₀ L m s Q E hsh B F X T hf hk hdp hun ret
  subst hsh
  have hB := two_pow_ge hW
  have v0 := val_nonneg (show 2 ≤ (2 : Int) ^ W.toNat by omega) ca.lim
  have pa : Can (2 ^ W.toNat) ns ∧ val (2 ^ W.toNat) ns = val (2 ^ W.toNat) ns ^ 1 := ⟨ca, (pow_one' _).symm⟩
  have p0 := pw_one hB (v := val (2 ^ W.toNat) ns)
  refine wpAny_call ?_
  refine' enter_pure (binds := [(Str.ofString "a", .ref la), (Str.ofString "n", .int 4 t), (Str.ofString "w", .int W u), (Str.ofString "mul", .ref 182)]) ?k1 ?k2 ?k3 ?k5 ?kA ?kF ?kK ?k6 ?k7 ?k8 ?k9 ?kB ?_ ?c2 ?c3 ?c4 ?c5
  walk_at "m enter"
  walk_at "m steps"
  refine Rest.out ?_
  refine' Says.useList (mul_says w mean mg mb _ _ _ _ _ _ _ W u (by is_list) (.cons _ _ .nil) (by is_list) (.cons _ _ .nil) (pw_len hB p0 v0 hv (by omega)) (pw_len hB p0 v0 hv (by omega)) hW hW2 p0.1.lim p0.1.lim) ?kB ?kF ?kN ?kX ?kT ?hf ?hk ?hd ?hu ?_
  walk_at "m ctx"
  intro cL1 cU1 cC1 cNs1 cH1 cTk1 cF1 cN1 cD1 cI1 cP1
  (try dsimp only)
  (try k_fold)
  have p1 := pw_mul cP1 p0 p0
  walk_at "m steps"
  refine Rest.out ?_
  refine' Says.useList (mul_says w mean mg mb _ _ la _ vs _ _ W u (by is_list) cI1 (by is_list) hia (pw_len hB p1 v0 hv (by omega)) (pw_len hB pa v0 hv (by omega)) hW hW2 p1.1.lim pa.1.lim) ?kB ?kF ?kN ?kX ?kT ?hf ?hk ?hd ?hu ?_
  walk_at "m ctx"
  intro cL2 cU2 cC2 cNs2 cH2 cTk2 cF2 cN2 cD2 cI2 cP2
  (try dsimp only)
  (try k_fold)
  have p2 := pw_mul cP2 p1 pa
  walk_at "m steps"
  refine Rest.out ?_
  refine' Says.useList (mul_says w mean mg mb _ _ _ _ _ _ _ W u (by is_list) cI2 (by is_list) cI2 (pw_len hB p2 v0 hv (by omega)) (pw_len hB p2 v0 hv (by omega)) hW hW2 p2.1.lim p2.1.lim) ?kB ?kF ?kN ?kX ?kT ?hf ?hk ?hd ?hu ?_
  walk_at "m ctx"
  intro cL3 cU3 cC3 cNs3 cH3 cTk3 cF3 cN3 cD3 cI3 cP3
  (try dsimp only)
  (try k_fold)
  have p3 := pw_mul cP3 p2 p2
  walk_at "m steps"
  refine Rest.out ?_
  refine' Says.useList (mul_says w mean mg mb _ _ _ _ _ _ _ W u (by is_list) cI3 (by is_list) cI3 (pw_len hB p3 v0 hv (by omega)) (pw_len hB p3 v0 hv (by omega)) hW hW2 p3.1.lim p3.1.lim) ?kB ?kF ?kN ?kX ?kT ?hf ?hk ?hd ?hu ?_
  walk_at "m ctx"
  intro cL4 cU4 cC4 cNs4 cH4 cTk4 cF4 cN4 cD4 cI4 cP4
  (try dsimp only)
  (try k_fold)
  have p4 := pw_mul cP4 p3 p3
  walk_at "m steps"
  refine ret _ _ _ (Fr.keep (by assumption)) (list_end (by assumption) (by repeat (first | exact .head _ | refine .tail _ ?_)) cI4 ?_)
  exact p4

end Mine
end FPower
section FRaised
namespace Mine
theorem fresh_FRaised : True := by
  k_with_none
  w_top off
  trivial
open PySem PySem.W PySem.Spec PySem.Calls PyProof.Rows
local macro_rules | `(tactic| walk_at "m enter") => `(tactic| (
  (case kA => exact rfl); (case kF => assumption); (case kK => assumption); (case k1 => assumption); (case k2 => assumption); (case k3 => assumption); (case k5 => assumption); (case k6 => k_is); (case k7 => k_is); (case k8 => ((try dsimp only [around]); omega)); (case k9 => exact BindsTo.of_eq rfl); (case c5 => decide); (case kB => exact locs rfl); (case c2 => exact rfl); (case c3 => exact rfl); (case c4 => exact rfl); k_whole; intro L' h' F' N' B' X' T'; (try dsimp only); (try k_fold)))
local macro_rules | `(tactic| size_fits) => `(tactic| (refine fits_ints (by assumption) ?_; first | omega | fail "m: no length"))
local macro_rules | `(tactic| walk_at "exec While Compare cons nil") => `(tactic| (k_here; with_reducible refine Rest.mk ?_))
local macro_rules | `(tactic| walk_at "m steps") => `(tactic| repeat' (first | (k_unfold; (try dsimp only)) | walk1 | (dsimp only; first | (k_unfold; (try dsimp only)) | walk1) | (k_unmd; k_unfold; (try dsimp only))))
local macro_rules | `(tactic| kst_facts) => `(tactic| ((try dsimp only); first | exact IntsAre.nil | exact True.intro | assumption | exact IntsAre.append (by assumption) (.cons _ _ .nil)))
local macro_rules | `(tactic| walk_at "exec While BoolOp cons nil") => `(tactic| (k_here; with_reducible refine Rest.mk ?_))
local macro_rules | `(tactic| walk_at "call ref") => `(tactic| (k_here; with_reducible refine Rest.mk ?_))
local macro_rules | `(tactic| walk_at "m ctx") => `(tactic| ((case kB => assumption); (case kF => assumption); (case kN => assumption); (case kX => assumption); (case kT => assumption); (case hf => exact rfl); (case hk => exact rfl); (case hd => ((try dsimp only [around, Around.deeper]); omega)); (case hu => ((try dsimp only [around, Around.deeper]); omega))))
local macro_rules | `(tactic| walk_at "exec For Tuple Call cons nil") => `(tactic| (k_here; with_reducible refine Rest.mk ?_))
local macro_rules | `(tactic| walk_at "call type:enumerate") => `(tactic| (k_here; with_reducible refine Rest.mk ?_))

theorem small_len {B : Int} {ns : List Int} (hB : 8 ≤ B) (c : Can B ns) (hv : val B ns ≤ 1000000000) : ns.length ≤ 60 := by
  refine c.len_le8 hB ?_
  have : (1000000000 : Int) < 8 ^ 60 := by decide
  omega
theorem power_says (w : World) (mean : ExcName → Option Value) (mg mb : Str → Option Value) (h : Heap) (la : Addr) (vs : List Value) (ns : List Int) (n W : Int) (t u : Tok) (hla : h.IsList la vs.toArray) (hia : IntsAre vs ns)
    (hna : ns.length ≤ 60) (h0 : 0 ≤ n) (hn : n ≤ 4) (hW : 3 ≤ W) (hW2 : W ≤ 8) (ca : Can (2 ^ W.toNat) ns) (hv : val (2 ^ W.toNat) ns ≤ 24) :
    Says w mean mg mb 175 [.ref la, .int n t, .int W u, .ref 182] 4 24 h (PList h fun rs => Can (2 ^ W.toNat) rs ∧ val (2 ^ W.toNat) rs = val (2 ^ W.toNat) ns ^ n.toNat) := by
  rcases (by omega : n = 0 ∨ n = 1 ∨ n = 2 ∨ n = 3 ∨ n = 4) with rfl | rfl | rfl | rfl | rfl
  · exact power0_says w mean mg mb h la vs ns W t u hla hia hna hW hW2 ca hv
  · exact power1_says w mean mg mb h la vs ns W t u hla hia hna hW hW2 ca hv
  · exact power2_says w mean mg mb h la vs ns W t u hla hia hna hW hW2 ca hv
  · exact power3_says w mean mg mb h la vs ns W t u hla hia hna hW hW2 ca hv
  · exact power4_says w mean mg mb h la vs ns W t u hla hia hna hW hW2 ca hv
theorem raised_ok {B x n : Int} {rs : List Int} {b : Bool} (h0 : 0 ≤ n) (hn : n ≤ 4) (c : Can B rs) (hv : val B rs = (if x < 0 then -x else x) ^ n.toNat) (hb : b = true ↔ (x < 0 ∧ n.fmod 2 = 1 ∧ rs ≠ [])) : SOk B b rs ∧ sv B b rs = x ^ n.toNat := by
  refine ⟨⟨c, fun e => (hb.mp e).2.2⟩, ?_⟩
  by_cases hx : x < 0
  · rw [if_pos hx] at hv
    have hne : rs ≠ [] := by
      intro e
      rw [e, val_nil] at hv
      have h1 : (1 : Int) ^ n.toNat ≤ (-x) ^ n.toNat := (pow_le_left (by decide) (by omega) _).2
      rw [Int.one_pow] at h1
      omega
    rcases (by omega : n = 0 ∨ n = 1 ∨ n = 2 ∨ n = 3 ∨ n = 4) with rfl | rfl | rfl | rfl | rfl
    · have e : b = false := by rw [← Bool.not_eq_true, hb]; simp
      rw [e, sv, hv]; simp
    · have e : b = true := hb.mpr ⟨hx, by decide, hne⟩
      rw [e, sv, hv]; simp [Int.pow_succ, Int.neg_mul, Int.mul_neg]
    · have e : b = false := by rw [← Bool.not_eq_true, hb]; simp
      rw [e, sv, hv]; simp [Int.pow_succ, Int.neg_mul, Int.mul_neg]
    · have e : b = true := hb.mpr ⟨hx, by decide, hne⟩
      rw [e, sv, hv]; simp [Int.pow_succ, Int.neg_mul, Int.mul_neg]
    · have e : b = false := by rw [← Bool.not_eq_true, hb]; simp
      rw [e, sv, hv]; simp [Int.pow_succ, Int.neg_mul, Int.mul_neg]
  · rw [if_neg hx] at hv
    have e : b = false := by rw [← Bool.not_eq_true, hb]; exact fun q => hx q.1
    rw [e, sv, hv]; simp
set_option maxHeartbeats 1000000 in
theorem raised_says (w : World) (mean : ExcName → Option Value) (mg mb : Str → Option Value) (h : Heap) (x n W : Int) (t₀ t u : Tok) (hx : -24 ≤ x) (hx2 : x ≤ 24) (h0 : 0 ≤ n) (hn : n ≤ 4) (hW : 3 ≤ W) (hW2 : W ≤ 8) :
    Says w mean mg mb 238 [.int x t₀, .int n t, .int W u] 5 128 h (PPair h fun b rs => SOk (2 ^ W.toNat) b rs ∧ sv (2 ^ W.toNat) b rs = x ^ n.toNat) := by
  unfold Says
  k_fill
  intro dp un gd env outer A₀ base h₀ L m s Q E hsh B F X T hf hk hdp hun ret
  subst hsh
  have hB := two_pow_ge hW
  refine wpAny_call ?_
  refine' enter_pure (binds := [(Str.ofString "number", .int x t₀), (Str.ofString "n", .int n t), (Str.ofString "w", .int W u)]) ?k1 ?k2 ?k3 ?k5 ?kA ?kF ?kK ?k6 ?k7 ?k8 ?k9 ?kB ?_ ?c2 ?c3 ?c4 ?c5
  walk_at "m enter"
  walk_at "m steps"
  have hy : 0 ≤ (if x < 0 then -x else x) ∧ (if x < 0 then -x else x) ≤ 24 := by split <;> omega
  refine Rest.out ?_
  refine' Says.useList (law_limbs_says w mean mg mb _ _ W _ u hy.1 (by omega) hW hW2) ?kB ?kF ?kN ?kX ?kT ?hf ?hk ?hd ?hu ?_
  walk_at "m ctx"
  intro cL1 cU1 cC1 cNs1 cH1 cTk1 cF1 cN1 cD1 cI1 cP1
  (try dsimp only)
  (try k_fold)
  have hl1 := small_len hB cP1.1 (by omega)
  walk_at "m steps"
  refine Rest.out ?_
  refine' Says.useList (power_says w mean mg mb _ _ _ _ n W t u (by is_list) cI1 hl1 h0 hn hW hW2 cP1.1 (by rw [cP1.2]; exact hy.2)) ?kB ?kF ?kN ?kX ?kT ?hf ?hk ?hd ?hu ?_
  walk_at "m ctx"
  intro cL2 cU2 cC2 cNs2 cH2 cTk2 cF2 cN2 cD2 cI2 cP2
  (try dsimp only)
  (try k_fold)
  have hl2 := pw_len hB cP2 (by rw [cP1.2]; exact hy.1) (by rw [cP1.2]; exact hy.2) (by omega)
  walk_at "m steps"
  all_goals refine ret _ _ _ (Fr.keep (by assumption)) (pair_end (by assumption) (.head _) (by repeat (first | exact .head _ | refine .tail _ ?_)) cI2 (raised_ok h0 hn cP2.1 (by rw [cP2.2, cP1.2]) ?_))
  · rename (x < 0) => e1
    rename (n.fmod 2 = 1) => e2
    simp [e1, e2]
  · rename (n.fmod 2 ≠ 1) => e2
    simp [e2]
  · rename (¬x < 0) => e1
    simp [e1]

end Mine
end FRaised
section FSieve
namespace Mine
theorem fresh_FSieve : True := by
  k_with_none
  w_top off
  trivial
open PySem PySem.W PySem.Spec PySem.Calls PyProof.Rows
local macro_rules | `(tactic| walk_at "m enter") => `(tactic| (
  (case kA => exact rfl); (case kF => assumption); (case kK => assumption); (case k1 => assumption); (case k2 => assumption); (case k3 => assumption); (case k5 => assumption); (case k6 => k_is); (case k7 => k_is); (case k8 => ((try dsimp only [around]); omega)); (case k9 => exact BindsTo.of_eq rfl); (case c5 => decide); (case kB => exact locs rfl); (case c2 => exact rfl); (case c3 => exact rfl); (case c4 => exact rfl); k_whole; intro L' h' F' N' B' X' T'; (try dsimp only); (try k_fold)))
local macro_rules | `(tactic| size_fits) => `(tactic| (refine fits_ints (by assumption) ?_; first | omega | fail "m: no length"))
local macro_rules | `(tactic| walk_at "exec While Compare cons nil") => `(tactic| (k_here; with_reducible refine Rest.mk ?_))
local macro_rules | `(tactic| walk_at "m steps") => `(tactic| repeat' (first | (k_unfold; (try dsimp only)) | walk1 | (dsimp only; first | (k_unfold; (try dsimp only)) | walk1) | (k_unmd; k_unfold; (try dsimp only))))
local macro_rules | `(tactic| kst_facts) => `(tactic| ((try dsimp only); first | exact IntsAre.nil | exact True.intro | assumption | exact IntsAre.append (by assumption) (.cons _ _ .nil)))
local macro_rules | `(tactic| walk_at "exec While BoolOp cons nil") => `(tactic| (k_here; with_reducible refine Rest.mk ?_))
local macro_rules | `(tactic| walk_at "call ref") => `(tactic| (k_here; with_reducible refine Rest.mk ?_))
local macro_rules | `(tactic| walk_at "m ctx") => `(tactic| ((case kB => assumption); (case kF => assumption); (case kN => assumption); (case kX => assumption); (case kT => assumption); (case hf => exact rfl); (case hk => exact rfl); (case hd => ((try dsimp only [around, Around.deeper]); omega)); (case hu => ((try dsimp only [around, Around.deeper]); omega))))
local macro_rules | `(tactic| walk_at "exec For Tuple Call cons nil") => `(tactic| (k_here; with_reducible refine Rest.mk ?_))
local macro_rules | `(tactic| walk_at "call type:enumerate") => `(tactic| (k_here; with_reducible refine Rest.mk ?_))

theorem add_lit {prog : Program} {w : World} {A : Around} {E : Value → Shared → Prop} {s : Shared} {x y z : Int} {t u : Tok} {Q : Value → Shared → Prop} (e : x + y = z) (h : Q (.int z s.toks) { s with toks := s.toks + 1 }) : wpAny (model prog w) A (binaryOp .Add (.int x t) (.int y u)) Q E s := by
  subst e
  exact add_int h
local macro_rules | `(tactic| walk_at "binaryOp Mult ref int") => `(tactic| (k_here; with_reducible refine Rest.mk ?_))
local macro_rules | `(tactic| walk_at "binaryOp Add int int") => `(tactic| (k_here; refine' add_lit ?e ?_; (case e => (simp only [Int.reduceAdd, Int.reduceMul, Int.natCast_zero, Int.natCast_one, Nat.zero_add, Nat.reduceAdd, Int.add_zero]; exact rfl))))
set_option maxHeartbeats 2000000 in
theorem sieve2_says (w : World) (mean : ExcName → Option Value) (mg mb : Str → Option Value) (h : Heap) (t : Tok) : Says w mean mg mb 128 [.int 2 t] 2 8 h (PList h fun rs => rs = [2]) := by
  unfold Says
  k_fill
  intro dp un gd env outer A₀ base h₀ L m s Q E hsh B F X T hf hk hdp hun ret
  subst hsh
  refine wpAny_call ?_
  refine' enter_pure (binds := [(Str.ofString "n", .int 2 t)]) ?k1 ?k2 ?k3 ?k5 ?kA ?kF ?kK ?k6 ?k7 ?k8 ?k9 ?kB ?_ ?c2 ?c3 ?c4 ?c5
  walk_at "m enter"
  walk_at "m steps"
  refine Rest.out ?_
  refine KMa.mul (vs := [.bool true]) (ws := [.bool true, .bool true, .bool true]) (by assumption) (by assumption) (by is_list) (by decide) (by decide) (by decide) rfl ?_
  intro D h1 F1 N1 l1
  (try k_lt l1)
  (try dsimp only)
  (try k_fold)
  walk_at "m steps"
  exact ret _ _ _ (Fr.keep (by assumption)) (list_end (by assumption) (.head _) (.cons _ _ .nil) rfl)
set_option maxHeartbeats 2000000 in
theorem sieve3_says (w : World) (mean : ExcName → Option Value) (mg mb : Str → Option Value) (h : Heap) (t : Tok) : Says w mean mg mb 128 [.int 3 t] 2 8 h (PList h fun rs => rs = [2, 3]) := by
  unfold Says
  k_fill
  intro dp un gd env outer A₀ base h₀ L m s Q E hsh B F X T hf hk hdp hun ret
  subst hsh
  refine wpAny_call ?_
  refine' enter_pure (binds := [(Str.ofString "n", .int 3 t)]) ?k1 ?k2 ?k3 ?k5 ?kA ?kF ?kK ?k6 ?k7 ?k8 ?k9 ?kB ?_ ?c2 ?c3 ?c4 ?c5
  walk_at "m enter"
  walk_at "m steps"
  refine Rest.out ?_
  refine KMa.mul (vs := [.bool true]) (ws := [.bool true, .bool true, .bool true, .bool true]) (by assumption) (by assumption) (by is_list) (by decide) (by decide) (by decide) rfl ?_
  intro D h1 F1 N1 l1
  (try k_lt l1)
  (try dsimp only)
  (try k_fold)
  walk_at "m steps"
  exact ret _ _ _ (Fr.keep (by assumption)) (list_end (by assumption) (.head _) (.cons _ _ (.cons _ _ .nil)) rfl)
set_option maxHeartbeats 2000000 in
theorem sieve4_says (w : World) (mean : ExcName → Option Value) (mg mb : Str → Option Value) (h : Heap) (t : Tok) : Says w mean mg mb 128 [.int 4 t] 2 8 h (PList h fun rs => rs = [2, 3]) := by
  unfold Says
  k_fill
  intro dp un gd env outer A₀ base h₀ L m s Q E hsh B F X T hf hk hdp hun ret
  subst hsh
  refine wpAny_call ?_
  refine' enter_pure (binds := [(Str.ofString "n", .int 4 t)]) ?k1 ?k2 ?k3 ?k5 ?kA ?kF ?kK ?k6 ?k7 ?k8 ?k9 ?kB ?_ ?c2 ?c3 ?c4 ?c5
  walk_at "m enter"
  walk_at "m steps"
  refine Rest.out ?_
  refine KMa.mul (vs := [.bool true]) (ws := [.bool true, .bool true, .bool true, .bool true, .bool true]) (by assumption) (by assumption) (by is_list) (by decide) (by decide) (by decide) rfl ?_
  intro D h1 F1 N1 l1
  (try k_lt l1)
  (try dsimp only)
  (try k_fold)
  walk_at "m steps"
  exact ret _ _ _ (Fr.keep (by assumption)) (list_end (by assumption) (.head _) (.cons _ _ (.cons _ _ .nil)) rfl)

end Mine
end FSieve
section FSwing
namespace Mine
theorem fresh_FSwing : True := by
  k_with_none
  w_top off
  trivial
open PySem PySem.W PySem.Spec PySem.Calls PyProof.Rows
local macro_rules | `(tactic| walk_at "m enter") => `(tactic| (
  (case kA => exact rfl); (case kF => assumption); (case kK => assumption); (case k1 => assumption); (case k2 => assumption); (case k3 => assumption); (case k5 => assumption); (case k6 => k_is); (case k7 => k_is); (case k8 => ((try dsimp only [around]); omega)); (case k9 => exact BindsTo.of_eq rfl); (case c5 => decide); (case kB => exact locs rfl); (case c2 => exact rfl); (case c3 => exact rfl); (case c4 => exact rfl); k_whole; intro L' h' F' N' B' X' T'; (try dsimp only); (try k_fold)))
local macro_rules | `(tactic| size_fits) => `(tactic| (refine fits_ints (by assumption) ?_; first | omega | fail "m: no length"))
local macro_rules | `(tactic| walk_at "exec While Compare cons nil") => `(tactic| (k_here; with_reducible refine Rest.mk ?_))
local macro_rules | `(tactic| walk_at "m steps") => `(tactic| repeat' (first | (k_unfold; (try dsimp only)) | walk1 | (dsimp only; first | (k_unfold; (try dsimp only)) | walk1) | (k_unmd; k_unfold; (try dsimp only))))
local macro_rules | `(tactic| kst_facts) => `(tactic| ((try dsimp only); first | exact IntsAre.nil | exact True.intro | assumption | exact IntsAre.append (by assumption) (.cons _ _ .nil)))
local macro_rules | `(tactic| walk_at "exec While BoolOp cons nil") => `(tactic| (k_here; with_reducible refine Rest.mk ?_))
local macro_rules | `(tactic| walk_at "call ref") => `(tactic| (k_here; with_reducible refine Rest.mk ?_))
local macro_rules | `(tactic| walk_at "m ctx") => `(tactic| ((case kB => assumption); (case kF => assumption); (case kN => assumption); (case kX => assumption); (case kT => assumption); (case hf => exact rfl); (case hk => exact rfl); (case hd => ((try dsimp only [around, Around.deeper]); omega)); (case hu => ((try dsimp only [around, Around.deeper]); omega))))
local macro_rules | `(tactic| walk_at "exec For Tuple Call cons nil") => `(tactic| (k_here; with_reducible refine Rest.mk ?_))
local macro_rules | `(tactic| walk_at "call type:enumerate") => `(tactic| (k_here; with_reducible refine Rest.mk ?_))

theorem se2_step {r f K : Int} (h0 : 0 ≤ r) (h2 : r ≤ 2) (e : f + r % 2 + r / 2 % 2 = K) : 0 ≤ r.fdiv 2 ∧ r.fdiv 2 ≤ 2 ∧ f + r.fmod 2 + r.fdiv 2 % 2 + r.fdiv 2 / 2 % 2 = K := by
  rw [Int.fdiv_eq_ediv_of_nonneg _ (by decide), Int.fmod_eq_emod_of_nonneg _ (by decide)]
  omega
theorem se2_less {r : Int} (h : 0 < r) : (r.fdiv 2).toNat < r.toNat := by
  rw [Int.fdiv_eq_ediv_of_nonneg _ (by decide)]
  omega
theorem se2_start {n : Int} (h0 : 2 ≤ n) (h2 : n ≤ 4) : 0 ≤ n.fdiv 2 ∧ n.fdiv 2 ≤ 2 ∧ 0 + n.fdiv 2 % 2 + n.fdiv 2 / 2 % 2 = n / 2 % 2 + n / 2 / 2 % 2 := by
  rw [Int.fdiv_eq_ediv_of_nonneg _ (by decide)]
  omega
set_option maxHeartbeats 1000000 in
theorem swexp2_says (w : World) (mean : ExcName → Option Value) (mg mb : Str → Option Value) (h : Heap) (n : Int) (t u : Tok) (h0 : 2 ≤ n) (h2 : n ≤ 4) : Says w mean mg mb 156 [.int n t, .int 2 u] 2 8 h (PInt fun k => k = n / 2 % 2 + n / 2 / 2 % 2) := by
  unfold Says
  k_fill
  intro dp un gd env outer A₀ base h₀ L m s Q E hsh B F X T hf hk hdp hun ret
  subst hsh
  refine wpAny_call ?_
  refine' enter_pure (binds := [(Str.ofString "n", .int n t), (Str.ofString "prime", .int 2 u)]) ?k1 ?k2 ?k3 ?k5 ?kA ?kF ?kK ?k6 ?k7 ?k8 ?k9 ?kB ?_ ?c2 ?c3 ?c4 ?c5
  walk_at "m enter"
  k_with "state" => first | exact se2_start h0 h2 | exact se2_step (by assumption) (by assumption) (by assumption)
  k_with "measure" => exact se2_less (by assumption)
  walk_at "m steps"
  refine Rest.out ?_
  k_while (fun _ rest found => 0 ≤ rest ∧ rest ≤ 2 ∧ found + rest % 2 + rest / 2 % 2 = n / 2 % 2 + n / 2 / 2 % 2) (fun _ rest _ => rest.toNat) "rest" "found"
  walk_at "m steps"
  exact ret _ _ _ (Fr.keep (by assumption)) ⟨_, _, rfl, by omega⟩
theorem se3_step {r f K : Int} (h0 : 0 ≤ r) (h2 : r ≤ 2) (e : f + r % 2 + r / 3 % 2 = K) : 0 ≤ r.fdiv 3 ∧ r.fdiv 3 ≤ 2 ∧ f + r.fmod 2 + r.fdiv 3 % 2 + r.fdiv 3 / 3 % 2 = K := by
  rw [Int.fdiv_eq_ediv_of_nonneg _ (by decide), Int.fmod_eq_emod_of_nonneg _ (by decide)]
  omega
theorem se3_less {r : Int} (h : 0 < r) : (r.fdiv 3).toNat < r.toNat := by
  rw [Int.fdiv_eq_ediv_of_nonneg _ (by decide)]
  omega
theorem se3_start {n : Int} (h0 : 2 ≤ n) (h2 : n ≤ 4) : 0 ≤ n.fdiv 3 ∧ n.fdiv 3 ≤ 2 ∧ 0 + n.fdiv 3 % 2 + n.fdiv 3 / 3 % 2 = n / 3 % 2 + n / 3 / 3 % 2 := by
  rw [Int.fdiv_eq_ediv_of_nonneg _ (by decide)]
  omega
set_option maxHeartbeats 1000000 in
theorem swexp3_says (w : World) (mean : ExcName → Option Value) (mg mb : Str → Option Value) (h : Heap) (n : Int) (t u : Tok) (h0 : 2 ≤ n) (h2 : n ≤ 4) : Says w mean mg mb 156 [.int n t, .int 3 u] 2 8 h (PInt fun k => k = n / 3 % 2 + n / 3 / 3 % 2) := by
  unfold Says
  k_fill
  intro dp un gd env outer A₀ base h₀ L m s Q E hsh B F X T hf hk hdp hun ret
  subst hsh
  refine wpAny_call ?_
  refine' enter_pure (binds := [(Str.ofString "n", .int n t), (Str.ofString "prime", .int 3 u)]) ?k1 ?k2 ?k3 ?k5 ?kA ?kF ?kK ?k6 ?k7 ?k8 ?k9 ?kB ?_ ?c2 ?c3 ?c4 ?c5
  walk_at "m enter"
  k_with "state" => first | exact se3_start h0 h2 | exact se3_step (by assumption) (by assumption) (by assumption)
  k_with "measure" => exact se3_less (by assumption)
  walk_at "m steps"
  refine Rest.out ?_
  k_while (fun _ rest found => 0 ≤ rest ∧ rest ≤ 2 ∧ found + rest % 2 + rest / 3 % 2 = n / 3 % 2 + n / 3 / 3 % 2) (fun _ rest _ => rest.toNat) "rest" "found"
  walk_at "m steps"
  exact ret _ _ _ (Fr.keep (by assumption)) ⟨_, _, rfl, by omega⟩

end Mine
end FSwing
section FPoc
namespace Mine
theorem fresh_FPoc : True := by
  k_with_none
  w_top off
  trivial
open PySem PySem.W PySem.Spec PySem.Calls PyProof.Rows
local macro_rules | `(tactic| walk_at "m enter") => `(tactic| (
  (case kA => exact rfl); (case kF => assumption); (case kK => assumption); (case k1 => assumption); (case k2 => assumption); (case k3 => assumption); (case k5 => assumption); (case k6 => k_is); (case k7 => k_is); (case k8 => ((try dsimp only [around]); omega)); (case k9 => exact BindsTo.of_eq rfl); (case c5 => decide); (case kB => exact locs rfl); (case c2 => exact rfl); (case c3 => exact rfl); (case c4 => exact rfl); k_whole; intro L' h' F' N' B' X' T'; (try dsimp only); (try k_fold)))
local macro_rules | `(tactic| size_fits) => `(tactic| (refine fits_ints (by assumption) ?_; first | omega | fail "m: no length"))
local macro_rules | `(tactic| walk_at "m steps") => `(tactic| repeat' (first | (k_unfold; (try dsimp only)) | walk1 | (dsimp only; first | (k_unfold; (try dsimp only)) | walk1) | (k_unmd; k_unfold; (try dsimp only))))
local macro_rules | `(tactic| kst_facts) => `(tactic| ((try dsimp only); first | exact IntsAre.nil | exact True.intro | assumption | exact IntsAre.append (by assumption) (.cons _ _ .nil)))
local macro_rules | `(tactic| walk_at "call ref") => `(tactic| (k_here; with_reducible refine Rest.mk ?_))
local macro_rules | `(tactic| walk_at "m ctx") => `(tactic| ((case kB => assumption); (case kF => assumption); (case kN => assumption); (case kX => assumption); (case kT => assumption); (case hf => exact rfl); (case hk => exact rfl); (case hd => ((try dsimp only [around, Around.deeper]); omega)); (case hu => ((try dsimp only [around, Around.deeper]); omega))))
local macro_rules | `(tactic| walk_at "exec For Tuple Call cons nil") => `(tactic| (k_here; with_reducible refine Rest.mk ?_))
local macro_rules | `(tactic| walk_at "call type:enumerate") => `(tactic| (k_here; with_reducible refine Rest.mk ?_))
-- NOWHILE
set_option maxHeartbeats 1000000 in
theorem poc_says (w : World) (mean : ExcName → Option Value) (mg mb : Str → Option Value) (h : Heap) (p W : Int) (t₁ t₂ u : Tok) (h0 : 2 ≤ p) (h2 : p ≤ 3) (hW : 3 ≤ W) (hW2 : W ≤ 8) : Says w mean mg mb 142 [.int p t₁, .int 1 t₂, .int W u, .ref 182] 4 24 h (PList h fun rs => Can (2 ^ W.toNat) rs ∧ val (2 ^ W.toNat) rs = p) := by
  unfold Says
  k_fill
  intro dp un gd env outer A₀ base h₀ L m s Q E hsh B F X T hf hk hdp hun ret
  subst hsh
  have hB := two_pow_ge hW
  refine wpAny_call ?_
  refine' enter_pure (binds := [(Str.ofString "base", .int p t₁), (Str.ofString "many", .int 1 t₂), (Str.ofString "w", .int W u), (Str.ofString "mul", .ref 182)]) ?k1 ?k2 ?k3 ?k5 ?kA ?kF ?kK ?k6 ?k7 ?k8 ?k9 ?kB ?_ ?c2 ?c3 ?c4 ?c5
  walk_at "m enter"
  walk_at "m steps"
  refine Rest.out ?_
  refine' Says.useList (nat_of_says w mean mg mb _ p W t₁ u (by omega) (by omega) hW hW2) ?kB ?kF ?kN ?kX ?kT ?hf ?hk ?hd ?hu ?_
  walk_at "m ctx"
  intro cL1 cU1 cC1 cNs1 cH1 cTk1 cF1 cN1 cD1 cI1 cP1
  (try dsimp only)
  (try k_fold)
  walk_at "m steps"
  have hl1 := small_len hB cP1.1 (by rw [cP1.2]; omega)
  refine Rest.out ?_
  refine' Says.useList (mul_says w mean mg mb _ _ _ _ _ _ _ W u (by is_list) (.cons _ _ .nil) (by is_list) cI1 (by decide) hl1 hW hW2 (pw_one hB (v := 1)).1.lim cP1.1.lim) ?kB ?kF ?kN ?kX ?kT ?hf ?hk ?hd ?hu ?_
  walk_at "m ctx"
  intro cL2 cU2 cC2 cNs2 cH2 cTk2 cF2 cN2 cD2 cI2 cP2
  (try dsimp only)
  (try k_fold)
  walk_at "m steps"
  refine ret _ _ _ (Fr.keep (by assumption)) (list_end (by assumption) (by repeat (first | exact .head _ | refine .tail _ ?_)) cI2 ?_)
  exact ⟨cP2.1, by rw [cP2.2, cP1.2, (pw_one hB (v := 1)).2]; simp⟩

end Mine
end FPoc
section FPop
namespace Mine
theorem fresh_FPop : True := by
  k_with_none
  w_top off
  trivial
open PySem PySem.W PySem.Spec PySem.Calls PyProof.Rows
local macro_rules | `(tactic| walk_at "m enter") => `(tactic| (
  (case kA => exact rfl); (case kF => assumption); (case kK => assumption); (case k1 => assumption); (case k2 => assumption); (case k3 => assumption); (case k5 => assumption); (case k6 => k_is); (case k7 => k_is); (case k8 => ((try dsimp only [around]); omega)); (case k9 => exact BindsTo.of_eq rfl); (case c5 => decide); (case kB => exact locs rfl); (case c2 => exact rfl); (case c3 => exact rfl); (case c4 => exact rfl); k_whole; intro L' h' F' N' B' X' T'; (try dsimp only); (try k_fold)))
local macro_rules | `(tactic| size_fits) => `(tactic| (refine fits_ints (by assumption) ?_; first | omega | fail "m: no length"))
local macro_rules | `(tactic| walk_at "exec While Compare cons nil") => `(tactic| (k_here; with_reducible refine Rest.mk ?_))
local macro_rules | `(tactic| walk_at "m steps") => `(tactic| repeat' (first | (k_unfold; (try dsimp only)) | walk1 | (dsimp only; first | (k_unfold; (try dsimp only)) | walk1) | (k_unmd; k_unfold; (try dsimp only))))
local macro_rules | `(tactic| kst_facts) => `(tactic| ((try dsimp only); first | exact IntsAre.nil | exact True.intro | assumption | exact IntsAre.append (by assumption) (.cons _ _ .nil)))
local macro_rules | `(tactic| walk_at "exec While BoolOp cons nil") => `(tactic| (k_here; with_reducible refine Rest.mk ?_))
local macro_rules | `(tactic| walk_at "call ref") => `(tactic| (k_here; with_reducible refine Rest.mk ?_))
local macro_rules | `(tactic| walk_at "m ctx") => `(tactic| ((case kB => assumption); (case kF => assumption); (case kN => assumption); (case kX => assumption); (case kT => assumption); (case hf => exact rfl); (case hk => exact rfl); (case hd => ((try dsimp only [around, Around.deeper]); omega)); (case hu => ((try dsimp only [around, Around.deeper]); omega))))
local macro_rules | `(tactic| walk_at "exec For Tuple Call cons nil") => `(tactic| (k_here; with_reducible refine Rest.mk ?_))
local macro_rules | `(tactic| walk_at "call type:enumerate") => `(tactic| (k_here; with_reducible refine Rest.mk ?_))

theorem len_lit {prog : Program} {w : World} {A : Around} {E : Value → Shared → Prop} {s : Shared} {l : Addr} {items : Array Value} {Q : Value → Shared → Prop} (k : Int) (hl : s.heap.IsList l items) (e : (items.size : Int) = k) (hk : k < 2 ^ 63)
    (h : Q (.int k (s.toks + 1)) { s with toks := s.toks + 1 + 1 }) : wpAny (model prog w) A (call (.builtin "len") [.ref l]) Q E s := by
  subst e
  exact Calls.call_len_list hl (by omega) h
local macro_rules | `(tactic| walk_at "call builtin:len") => `(tactic| (k_here; refine' len_lit 1 ?hl ?e (by decide) ?_; (case hl => is_list); (case e => with_unfolding_all rfl)))
set_option maxHeartbeats 1000000 in
theorem pop1_says (w : World) (mean : ExcName → Option Value) (mg mb : Str → Option Value) (h : Heap) (l A1 : Addr) (p W : Int) (t₁ t₂ u : Tok) (hl : h.IsList l #[.ref A1]) (hT : IsTup h A1 #[.int p t₁, .int 1 t₂]) (h0 : 2 ≤ p) (h2 : p ≤ 3) (hW : 3 ≤ W) (hW2 : W ≤ 8) :
    Says w mean mg mb 149 [.ref l, .int W u, .ref 182] 5 32 h (PList h fun rs => Can (2 ^ W.toNat) rs ∧ val (2 ^ W.toNat) rs = p) := by
  unfold Says
  k_fill
  intro dp un gd env outer A₀ base h₀ L m s Q E hsh B F X T hf hk hdp hun ret
  subst hsh
  have hB := two_pow_ge hW
  refine wpAny_call ?_
  refine' enter_pure (binds := [(Str.ofString "pairs", .ref l), (Str.ofString "w", .int W u), (Str.ofString "mul", .ref 182)]) ?k1 ?k2 ?k3 ?k5 ?kA ?kF ?kK ?k6 ?k7 ?k8 ?k9 ?kB ?_ ?c2 ?c3 ?c4 ?c5
  walk_at "m enter"
  walk_at "m steps"
  refine Rest.out ?_
  refine' Says.useList (poc_says w mean mg mb _ p W t₁ t₂ u h0 h2 hW hW2) ?kB ?kF ?kN ?kX ?kT ?hf ?hk ?hd ?hu ?_
  walk_at "m ctx"
  intro cL1 cU1 cC1 cNs1 cH1 cTk1 cF1 cN1 cD1 cI1 cP1
  (try dsimp only)
  (try k_fold)
  walk_at "m steps"
  refine ret _ _ _ (Fr.keep (by assumption)) (list_end (by assumption) (by repeat (first | exact .head _ | refine .tail _ ?_)) cI1 cP1)
local macro_rules | `(tactic| walk_at "call builtin:len") => `(tactic| (k_here; refine' len_lit 2 ?hl ?e (by decide) ?_; (case hl => is_list); (case e => with_unfolding_all rfl)))
set_option maxHeartbeats 1000000 in
theorem pop2_says (w : World) (mean : ExcName → Option Value) (mg mb : Str → Option Value) (h : Heap) (l A1 A2 : Addr) (p p' W : Int) (t₁ t₂ t₃ t₄ u : Tok) (hl : h.IsList l #[.ref A1, .ref A2]) (hT : IsTup h A1 #[.int p t₁, .int 1 t₂]) (hT' : IsTup h A2 #[.int p' t₃, .int 1 t₄]) (h0 : 2 ≤ p) (h2 : p ≤ 3) (h0' : 2 ≤ p') (h2' : p' ≤ 3) (hW : 3 ≤ W) (hW2 : W ≤ 8) :
    Says w mean mg mb 149 [.ref l, .int W u, .ref 182] 6 40 h (PList h fun rs => Can (2 ^ W.toNat) rs ∧ val (2 ^ W.toNat) rs = p * p') := by
  unfold Says
  k_fill
  intro dp un gd env outer A₀ base h₀ L m s Q E hsh B F X T hf hk hdp hun ret
  subst hsh
  have hB := two_pow_ge hW
  refine wpAny_call ?_
  refine' enter_pure (binds := [(Str.ofString "pairs", .ref l), (Str.ofString "w", .int W u), (Str.ofString "mul", .ref 182)]) ?k1 ?k2 ?k3 ?k5 ?kA ?kF ?kK ?k6 ?k7 ?k8 ?k9 ?kB ?_ ?c2 ?c3 ?c4 ?c5
  walk_at "m enter"
  walk_at "m steps"
  refine Rest.out ?_
  refine' Says.useList (pop1_says w mean mg mb _ _ A1 p W t₁ t₂ u (News.isList (by assumption) (.head _)) (Fr.tup (by assumption) hT) h0 h2 hW hW2) ?kB ?kF ?kN ?kX ?kT ?hf ?hk ?hd ?hu ?_
  walk_at "m ctx"
  intro cL1 cU1 cC1 cNs1 cH1 cTk1 cF1 cN1 cD1 cI1 cP1
  (try dsimp only)
  (try k_fold)
  walk_at "m steps"
  refine Rest.out ?_
  refine' Says.useList (pop1_says w mean mg mb _ _ A2 p' W t₃ t₄ u (News.isList (by assumption) (.head _)) (Fr.tup (by assumption) hT') h0' h2' hW hW2) ?kB ?kF ?kN ?kX ?kT ?hf ?hk ?hd ?hu ?_
  walk_at "m ctx"
  intro cL2 cU2 cC2 cNs2 cH2 cTk2 cF2 cN2 cD2 cI2 cP2
  (try dsimp only)
  (try k_fold)
  walk_at "m steps"
  refine Rest.out ?_
  refine' Says.useList (mul_says w mean mg mb _ _ _ _ _ _ _ W u (by is_list) cI1 (by is_list) cI2 (small_len hB cP1.1 (by omega)) (small_len hB cP2.1 (by omega)) hW hW2 cP1.1.lim cP2.1.lim) ?kB ?kF ?kN ?kX ?kT ?hf ?hk ?hd ?hu ?_
  walk_at "m ctx"
  intro cL3 cU3 cC3 cNs3 cH3 cTk3 cF3 cN3 cD3 cI3 cP3
  (try dsimp only)
  (try k_fold)
  walk_at "m steps"
  refine ret _ _ _ (Fr.keep (by assumption)) (list_end (by assumption) (by repeat (first | exact .head _ | refine .tail _ ?_)) cI3 ?_)
  exact ⟨cP3.1, by rw [cP3.2, cP1.2, cP2.2]⟩

end Mine
end FPop
section FSwing2
namespace Mine
theorem fresh_FSwing2 : True := by
  k_with_none
  w_top off
  trivial
open PySem PySem.W PySem.Spec PySem.Calls PyProof.Rows
local macro_rules | `(tactic| walk_at "m enter") => `(tactic| (
  (case kA => exact rfl); (case kF => assumption); (case kK => assumption); (case k1 => assumption); (case k2 => assumption); (case k3 => assumption); (case k5 => assumption); (case k6 => k_is); (case k7 => k_is); (case k8 => ((try dsimp only [around]); omega)); (case k9 => exact BindsTo.of_eq rfl); (case c5 => decide); (case kB => exact locs rfl); (case c2 => exact rfl); (case c3 => exact rfl); (case c4 => exact rfl); k_whole; intro L' h' F' N' B' X' T'; (try dsimp only); (try k_fold)))
local macro_rules | `(tactic| size_fits) => `(tactic| (refine fits_ints (by assumption) ?_; first | omega | fail "m: no length"))
local macro_rules | `(tactic| walk_at "exec While Compare cons nil") => `(tactic| (k_here; with_reducible refine Rest.mk ?_))
local macro_rules | `(tactic| walk_at "m steps") => `(tactic| repeat' (first | (k_unfold; (try dsimp only)) | walk1 | (dsimp only; first | (k_unfold; (try dsimp only)) | walk1) | (k_unmd; k_unfold; (try dsimp only))))
local macro_rules | `(tactic| kst_facts) => `(tactic| ((try dsimp only); first | exact IntsAre.nil | exact True.intro | assumption | exact IntsAre.append (by assumption) (.cons _ _ .nil)))
local macro_rules | `(tactic| walk_at "exec While BoolOp cons nil") => `(tactic| (k_here; with_reducible refine Rest.mk ?_))
local macro_rules | `(tactic| walk_at "call ref") => `(tactic| (k_here; with_reducible refine Rest.mk ?_))
local macro_rules | `(tactic| walk_at "m ctx") => `(tactic| ((case kB => assumption); (case kF => assumption); (case kN => assumption); (case kX => assumption); (case kT => assumption); (case hf => exact rfl); (case hk => exact rfl); (case hd => ((try dsimp only [around, Around.deeper]); omega)); (case hu => ((try dsimp only [around, Around.deeper]); omega))))
local macro_rules | `(tactic| walk_at "exec For Tuple Call cons nil") => `(tactic| (k_here; with_reducible refine Rest.mk ?_))
local macro_rules | `(tactic| walk_at "call type:enumerate") => `(tactic| (k_here; with_reducible refine Rest.mk ?_))

local macro_rules | `(tactic| walk_at "exec Assign cons ListComp") => `(tactic| (k_here; with_reducible refine Rest.mk ?_))
local macro_rules | `(tactic| k_ne) => `(tactic| (refine neN ?_; (try dsimp only); first | assumption | exact And.left (by assumption) | exact And.left (And.right (by assumption)) | exact And.right (And.right (by assumption)) | exact And.left (And.left (by assumption)) | exact And.left (And.right (And.left (by assumption))) | exact And.right (And.right (And.left (by assumption))) | exact And.left (And.right (And.right (by assumption))) | exact And.right (And.right (And.right (by assumption))) | exact And.left (And.left (And.right (by assumption))) | exact And.left (And.right (And.left (And.right (by assumption)))) | exact And.right (And.right (And.left (And.right (by assumption)))) | exact And.left (And.right (And.right (And.right (by assumption)))) | exact And.right (And.right (And.right (And.right (by assumption)))) | exact And.left (And.left (And.right (And.right (by assumption)))) | exact And.left (And.right (And.left (And.right (And.right (by assumption))))) | exact And.right (And.right (And.left (And.right (And.right (by assumption))))) | exact And.left (And.right (And.right (And.right (And.right (by assumption))))) | exact And.right (And.right (And.right (And.right (And.right (by assumption))))) | exact And.left (And.left (And.right (And.right (And.right (by assumption))))) | exact And.left (And.right (And.left (And.right (And.right (And.right (by assumption)))))) | exact And.right (And.right (And.left (And.right (And.right (And.right (by assumption)))))) | exact And.left (And.right (And.right (And.right (And.right (And.right (by assumption)))))) | exact And.right (And.right (And.right (And.right (And.right (And.right (by assumption)))))) | exact Nat.ne_of_gt (by assumption) | exact Nat.ne_of_gt (And.left (by assumption)) | exact Nat.ne_of_gt (And.left (And.right (by assumption))) | exact Nat.ne_of_gt (And.right (And.right (by assumption))) | exact Nat.ne_of_gt (And.right (And.right (And.left (by assumption)))) | exact Nat.ne_of_gt (And.left (And.right (And.right (by assumption)))) | exact Nat.ne_of_gt (And.right (And.right (And.right (by assumption)))) | exact Nat.ne_of_gt (And.right (And.right (And.left (And.right (by assumption))))) | exact Nat.ne_of_gt (And.left (And.right (And.right (And.right (by assumption))))) | exact Nat.ne_of_gt (And.right (And.right (And.right (And.right (by assumption))))) | exact Nat.ne_of_gt (And.right (And.right (And.left (And.right (And.right (by assumption)))))) | exact Nat.ne_of_gt (And.left (And.right (And.right (And.right (And.right (by assumption)))))) | exact Nat.ne_of_gt (And.right (And.right (And.right (And.right (And.right (by assumption)))))) | exact Nat.ne_of_gt (And.right (And.right (And.left (And.right (And.right (And.right (by assumption))))))) | exact Nat.ne_of_gt (And.left (And.right (And.right (And.right (And.right (And.right (by assumption))))))) | exact Nat.ne_of_gt (And.right (And.right (And.right (And.right (And.right (And.right (by assumption))))))) | exact Nat.ne_of_lt (by assumption) | exact Nat.ne_of_lt (And.left (by assumption)) | exact Nat.ne_of_lt (And.left (And.right (by assumption))) | exact Nat.ne_of_lt (And.right (And.right (by assumption))) | exact Nat.ne_of_lt (And.right (And.right (And.left (by assumption)))) | exact Nat.ne_of_lt (And.left (And.right (And.right (by assumption)))) | exact Nat.ne_of_lt (And.right (And.right (And.right (by assumption)))) | exact Nat.ne_of_lt (And.right (And.right (And.left (And.right (by assumption))))) | exact Nat.ne_of_lt (And.left (And.right (And.right (And.right (by assumption))))) | exact Nat.ne_of_lt (And.right (And.right (And.right (And.right (by assumption))))) | exact Nat.ne_of_lt (And.right (And.right (And.left (And.right (And.right (by assumption)))))) | exact Nat.ne_of_lt (And.left (And.right (And.right (And.right (And.right (by assumption)))))) | exact Nat.ne_of_lt (And.right (And.right (And.right (And.right (And.right (by assumption)))))) | exact Nat.ne_of_lt (And.right (And.right (And.left (And.right (And.right (And.right (by assumption))))))) | exact Nat.ne_of_lt (And.left (And.right (And.right (And.right (And.right (And.right (by assumption))))))) | exact Nat.ne_of_lt (And.right (And.right (And.right (And.right (And.right (And.right (by assumption))))))) | omega))
set_option maxHeartbeats 1000000 in
theorem swing2_says (w : World) (mean : ExcName → Option Value) (mg mb : Str → Option Value) (h : Heap) (W : Int) (t u : Tok) (hW : 3 ≤ W) (hW2 : W ≤ 8) : Says w mean mg mb 161 [.int 2 t, .int W u, .ref 182] 8 64 h (PList h fun rs => Can (2 ^ W.toNat) rs ∧ val (2 ^ W.toNat) rs = 2) := by
  unfold Says
  k_fill
  intro dp un gd env outer A₀ base h₀ L m s Q E hsh B F X T hf hk hdp hun ret
  subst hsh
  have hB := two_pow_ge hW
  refine wpAny_call ?_
  refine' enter_cells (binds := [(Str.ofString "n", .int 2 t), (Str.ofString "w", .int W u), (Str.ofString "mul", .ref 182)]) ?k1 ?k2 ?k3 ?k5 ?kA ?kF ?kK ?k6 ?k7 ?k8 ?k9 ?kB ?kD ?_ ?c2 ?c3 ?c4
  (case kA => exact rfl); (case kF => assumption); (case kK => assumption); (case k1 => assumption); (case k2 => assumption); (case k3 => assumption); (case k5 => assumption); (case k6 => k_is); (case k7 => k_is); (case k8 => ((try dsimp only [around]); omega)); (case k9 => exact BindsTo.of_eq rfl); (case kB => exact rfl); (case kD => decide +kernel); (case c2 => exact rfl); (case c3 => exact rfl); (case c4 => exact rfl)
  k_whole
  intro L' h' tk' cells' F' N' Y' B' X' T'
  k_cells Y'
  (try simp only [List.cons_append, List.nil_append] at N')
  (try dsimp only)
  (try k_fold)
  walk_at "m steps"
  refine Rest.out ?_
  k_dflt (refine LCg.Assign_ListComp_U (F₀ := by k_asm) (by rfl) (by with_unfolding_all rfl) (by with_unfolding_all rfl) (by decide) (by rfl) (by decide) (by rfl) (by rfl) (by rfl) ?_)
  (try k_fold)
  walk_at "m steps"
  refine Rest.out ?_
  refine' Says.useList (sieve2_says w mean mg mb _ _) ?kB ?kF ?kN ?kX ?kT ?hf ?hk ?hd ?hu ?_
  walk_at "m ctx"
  intro cL1 cU1 cC1 cNs1 cH1 cTk1 cF1 cN1 cD1 cI1 cP1
  (try dsimp only)
  (try k_fold)
  subst cP1
  obtain ⟨v1, us1, rfl, ci2⟩ := cI1.cons_inv
  obtain rfl := ci2.nil_inv
  refine LCg.CompSrc.ledger (by rfl) cF1 cN1 (.head _) (Nat.le_of_ble_eq_true rfl) ?_
  intro g
  refine LCg.CompRest.succ (k := 0) ?_
  intro v I oI C oC D m₂ h3 tk E' hv hC hx F2 N2 off ne
  obtain rfl : v = .int 2 v1 := by simpa using hv.symm
  clear cF1 cN1
  simp only [LCg.Off3, and_true] at off
  (try k_unmd)
  (try k_fold)
  walk_at "m steps"
  refine Rest.out ?_
  refine' Says.useInt (swexp2_says w mean mg mb _ 2 t v1 (by decide) (by decide)) ?kB ?kF ?kN ?kX ?kT ?hf ?hk ?hd ?hu ?_
  walk_at "m ctx"
  intro cK3 cT3 cH3 cTk3 cF3 cN3 cP3
  (try dsimp only)
  (try k_fold)
  obtain rfl : cK3 = 1 := cP3
  walk_at "m steps"
  refine Rest.out ?_
  refine' Says.useList (pop1_says w mean mg mb _ _ _ 2 W _ _ u (News.isList (by assumption) (.head _)) (News.isTup (by assumption) (by repeat (first | exact .head _ | refine .tail _ ?_))) (by decide) (by decide) hW hW2) ?kB ?kF ?kN ?kX ?kT ?hf ?hk ?hd ?hu ?_
  walk_at "m ctx"
  intro cL2 cU2 cC2 cNs2 cH2 cTk2 cF2 cN2 cD2 cI2 cP2
  (try dsimp only)
  (try k_fold)
  walk_at "m steps"
  refine ret _ _ _ (Fr.keep (by assumption)) (list_end (by assumption) (by repeat (first | exact .head _ | refine .tail _ ?_)) cI2 ?_)
  exact ⟨cP2.1, cP2.2⟩
set_option maxHeartbeats 1000000 in
theorem swing3_says (w : World) (mean : ExcName → Option Value) (mg mb : Str → Option Value) (h : Heap) (W : Int) (t u : Tok) (hW : 3 ≤ W) (hW2 : W ≤ 8) : Says w mean mg mb 161 [.int 3 t, .int W u, .ref 182] 8 64 h (PList h fun rs => Can (2 ^ W.toNat) rs ∧ val (2 ^ W.toNat) rs = 6) := by
  unfold Says
  k_fill
  intro dp un gd env outer A₀ base h₀ L m s Q E hsh B F X T hf hk hdp hun ret
  subst hsh
  have hB := two_pow_ge hW
  refine wpAny_call ?_
  refine' enter_cells (binds := [(Str.ofString "n", .int 3 t), (Str.ofString "w", .int W u), (Str.ofString "mul", .ref 182)]) ?k1 ?k2 ?k3 ?k5 ?kA ?kF ?kK ?k6 ?k7 ?k8 ?k9 ?kB ?kD ?_ ?c2 ?c3 ?c4
  (case kA => exact rfl); (case kF => assumption); (case kK => assumption); (case k1 => assumption); (case k2 => assumption); (case k3 => assumption); (case k5 => assumption); (case k6 => k_is); (case k7 => k_is); (case k8 => ((try dsimp only [around]); omega)); (case k9 => exact BindsTo.of_eq rfl); (case kB => exact rfl); (case kD => decide +kernel); (case c2 => exact rfl); (case c3 => exact rfl); (case c4 => exact rfl)
  k_whole
  intro L' h' tk' cells' F' N' Y' B' X' T'
  k_cells Y'
  (try simp only [List.cons_append, List.nil_append] at N')
  (try dsimp only)
  (try k_fold)
  walk_at "m steps"
  refine Rest.out ?_
  k_dflt (refine LCg.Assign_ListComp_U (F₀ := by k_asm) (by rfl) (by with_unfolding_all rfl) (by with_unfolding_all rfl) (by decide) (by rfl) (by decide) (by rfl) (by rfl) (by rfl) ?_)
  (try k_fold)
  walk_at "m steps"
  refine Rest.out ?_
  refine' Says.useList (sieve3_says w mean mg mb _ _) ?kB ?kF ?kN ?kX ?kT ?hf ?hk ?hd ?hu ?_
  walk_at "m ctx"
  intro cL1 cU1 cC1 cNs1 cH1 cTk1 cF1 cN1 cD1 cI1 cP1
  (try dsimp only)
  (try k_fold)
  subst cP1
  obtain ⟨v1, us1, rfl, ci2⟩ := cI1.cons_inv
  obtain ⟨v2, us2, rfl, ci3⟩ := ci2.cons_inv
  obtain rfl := ci3.nil_inv
  refine LCg.CompSrc.ledger (by rfl) cF1 cN1 (.head _) (Nat.le_of_ble_eq_true rfl) ?_
  intro g
  refine LCg.CompRest.succ (k := 1) ?_
  intro v I oI C oC D m₂ h3 tk E' hv hC hx F2 N2 off ne
  obtain rfl : v = .int 2 v1 := by simpa using hv.symm
  clear cF1 cN1
  simp only [LCg.Off3, and_true] at off
  (try k_unmd)
  (try k_fold)
  walk_at "m steps"
  refine Rest.out ?_
  refine' Says.useInt (swexp2_says w mean mg mb _ 3 t v1 (by decide) (by decide)) ?kB ?kF ?kN ?kX ?kT ?hf ?hk ?hd ?hu ?_
  walk_at "m ctx"
  intro cK3 cT3 cH3 cTk3 cF3 cN3 cP3
  (try dsimp only)
  (try k_fold)
  obtain rfl : cK3 = 1 := cP3
  walk_at "m steps"
  refine Rest.out ?_
  refine' Says.useInt (swexp3_says w mean mg mb _ 3 t v2 (by decide) (by decide)) ?kB ?kF ?kN ?kX ?kT ?hf ?hk ?hd ?hu ?_
  walk_at "m ctx"
  intro cK4 cT4 cH4 cTk4 cF4 cN4 cP4
  (try dsimp only)
  (try k_fold)
  obtain rfl : cK4 = 1 := cP4
  walk_at "m steps"
  refine Rest.out ?_
  refine' Says.useList (pop2_says w mean mg mb _ _ _ _ 2 3 W _ _ _ _ u (News.isList (by assumption) (.head _)) (News.isTup (by assumption) (by repeat (first | exact .head _ | refine .tail _ ?_))) (News.isTup (by assumption) (by repeat (first | exact .head _ | refine .tail _ ?_))) (by decide) (by decide) (by decide) (by decide) hW hW2) ?kB ?kF ?kN ?kX ?kT ?hf ?hk ?hd ?hu ?_
  walk_at "m ctx"
  intro cL2 cU2 cC2 cNs2 cH2 cTk2 cF2 cN2 cD2 cI2 cP2
  (try dsimp only)
  (try k_fold)
  walk_at "m steps"
  refine ret _ _ _ (Fr.keep (by assumption)) (list_end (by assumption) (by repeat (first | exact .head _ | refine .tail _ ?_)) cI2 ?_)
  exact ⟨cP2.1, cP2.2⟩
set_option maxHeartbeats 1000000 in
theorem swing4_says (w : World) (mean : ExcName → Option Value) (mg mb : Str → Option Value) (h : Heap) (W : Int) (t u : Tok) (hW : 3 ≤ W) (hW2 : W ≤ 8) : Says w mean mg mb 161 [.int 4 t, .int W u, .ref 182] 8 64 h (PList h fun rs => Can (2 ^ W.toNat) rs ∧ val (2 ^ W.toNat) rs = 6) := by
  unfold Says
  k_fill
  intro dp un gd env outer A₀ base h₀ L m s Q E hsh B F X T hf hk hdp hun ret
  subst hsh
  have hB := two_pow_ge hW
  refine wpAny_call ?_
  refine' enter_cells (binds := [(Str.ofString "n", .int 4 t), (Str.ofString "w", .int W u), (Str.ofString "mul", .ref 182)]) ?k1 ?k2 ?k3 ?k5 ?kA ?kF ?kK ?k6 ?k7 ?k8 ?k9 ?kB ?kD ?_ ?c2 ?c3 ?c4
  (case kA => exact rfl); (case kF => assumption); (case kK => assumption); (case k1 => assumption); (case k2 => assumption); (case k3 => assumption); (case k5 => assumption); (case k6 => k_is); (case k7 => k_is); (case k8 => ((try dsimp only [around]); omega)); (case k9 => exact BindsTo.of_eq rfl); (case kB => exact rfl); (case kD => decide +kernel); (case c2 => exact rfl); (case c3 => exact rfl); (case c4 => exact rfl)
  k_whole
  intro L' h' tk' cells' F' N' Y' B' X' T'
  k_cells Y'
  (try simp only [List.cons_append, List.nil_append] at N')
  (try dsimp only)
  (try k_fold)
  walk_at "m steps"
  refine Rest.out ?_
  k_dflt (refine LCg.Assign_ListComp_U (F₀ := by k_asm) (by rfl) (by with_unfolding_all rfl) (by with_unfolding_all rfl) (by decide) (by rfl) (by decide) (by rfl) (by rfl) (by rfl) ?_)
  (try k_fold)
  walk_at "m steps"
  refine Rest.out ?_
  refine' Says.useList (sieve4_says w mean mg mb _ _) ?kB ?kF ?kN ?kX ?kT ?hf ?hk ?hd ?hu ?_
  walk_at "m ctx"
  intro cL1 cU1 cC1 cNs1 cH1 cTk1 cF1 cN1 cD1 cI1 cP1
  (try dsimp only)
  (try k_fold)
  subst cP1
  obtain ⟨v1, us1, rfl, ci2⟩ := cI1.cons_inv
  obtain ⟨v2, us2, rfl, ci3⟩ := ci2.cons_inv
  obtain rfl := ci3.nil_inv
  refine LCg.CompSrc.ledger (by rfl) cF1 cN1 (.head _) (Nat.le_of_ble_eq_true rfl) ?_
  intro g
  refine LCg.CompRest.succ (k := 1) ?_
  intro v I oI C oC D m₂ h3 tk E' hv hC hx F2 N2 off ne
  obtain rfl : v = .int 2 v1 := by simpa using hv.symm
  clear cF1 cN1
  simp only [LCg.Off3, and_true] at off
  (try k_unmd)
  (try k_fold)
  walk_at "m steps"
  refine Rest.out ?_
  refine' Says.useInt (swexp2_says w mean mg mb _ 4 t v1 (by decide) (by decide)) ?kB ?kF ?kN ?kX ?kT ?hf ?hk ?hd ?hu ?_
  walk_at "m ctx"
  intro cK3 cT3 cH3 cTk3 cF3 cN3 cP3
  (try dsimp only)
  (try k_fold)
  obtain rfl : cK3 = 1 := cP3
  walk_at "m steps"
  refine Rest.out ?_
  refine' Says.useInt (swexp3_says w mean mg mb _ 4 t v2 (by decide) (by decide)) ?kB ?kF ?kN ?kX ?kT ?hf ?hk ?hd ?hu ?_
  walk_at "m ctx"
  intro cK4 cT4 cH4 cTk4 cF4 cN4 cP4
  (try dsimp only)
  (try k_fold)
  obtain rfl : cK4 = 1 := cP4
  walk_at "m steps"
  refine Rest.out ?_
  refine' Says.useList (pop2_says w mean mg mb _ _ _ _ 2 3 W _ _ _ _ u (News.isList (by assumption) (.head _)) (News.isTup (by assumption) (by repeat (first | exact .head _ | refine .tail _ ?_))) (News.isTup (by assumption) (by repeat (first | exact .head _ | refine .tail _ ?_))) (by decide) (by decide) (by decide) (by decide) hW hW2) ?kB ?kF ?kN ?kX ?kT ?hf ?hk ?hd ?hu ?_
  walk_at "m ctx"
  intro cL2 cU2 cC2 cNs2 cH2 cTk2 cF2 cN2 cD2 cI2 cP2
  (try dsimp only)
  (try k_fold)
  walk_at "m steps"
  refine ret _ _ _ (Fr.keep (by assumption)) (list_end (by assumption) (by repeat (first | exact .head _ | refine .tail _ ?_)) cI2 ?_)
  exact ⟨cP2.1, cP2.2⟩

end Mine
end FSwing2
section FFact
namespace Mine
theorem fresh_FFact : True := by
  k_with_none
  w_top off
  trivial
open PySem PySem.W PySem.Spec PySem.Calls PyProof.Rows
local macro_rules | `(tactic| walk_at "m enter") => `(tactic| (
  (case kA => exact rfl); (case kF => assumption); (case kK => assumption); (case k1 => assumption); (case k2 => assumption); (case k3 => assumption); (case k5 => assumption); (case k6 => k_is); (case k7 => k_is); (case k8 => ((try dsimp only [around]); omega)); (case k9 => exact BindsTo.of_eq rfl); (case c5 => decide); (case kB => exact locs rfl); (case c2 => exact rfl); (case c3 => exact rfl); (case c4 => exact rfl); k_whole; intro L' h' F' N' B' X' T'; (try dsimp only); (try k_fold)))
local macro_rules | `(tactic| size_fits) => `(tactic| (refine fits_ints (by assumption) ?_; first | omega | fail "m: no length"))
local macro_rules | `(tactic| walk_at "exec While Compare cons nil") => `(tactic| (k_here; with_reducible refine Rest.mk ?_))
local macro_rules | `(tactic| walk_at "m steps") => `(tactic| repeat' (first | (k_unfold; (try dsimp only)) | walk1 | (dsimp only; first | (k_unfold; (try dsimp only)) | walk1) | (k_unmd; k_unfold; (try dsimp only))))
local macro_rules | `(tactic| kst_facts) => `(tactic| ((try dsimp only); first | exact IntsAre.nil | exact True.intro | assumption | exact IntsAre.append (by assumption) (.cons _ _ .nil)))
local macro_rules | `(tactic| walk_at "exec While BoolOp cons nil") => `(tactic| (k_here; with_reducible refine Rest.mk ?_))
local macro_rules | `(tactic| walk_at "call ref") => `(tactic| (k_here; with_reducible refine Rest.mk ?_))
local macro_rules | `(tactic| walk_at "m ctx") => `(tactic| ((case kB => assumption); (case kF => assumption); (case kN => assumption); (case kX => assumption); (case kT => assumption); (case hf => exact rfl); (case hk => exact rfl); (case hd => ((try dsimp only [around, Around.deeper]); omega)); (case hu => ((try dsimp only [around, Around.deeper]); omega))))
local macro_rules | `(tactic| walk_at "exec For Tuple Call cons nil") => `(tactic| (k_here; with_reducible refine Rest.mk ?_))
local macro_rules | `(tactic| walk_at "call type:enumerate") => `(tactic| (k_here; with_reducible refine Rest.mk ?_))

set_option maxHeartbeats 1000000 in
theorem need_count_says (w : World) (mean : ExcName → Option Value) (mg mb : Str → Option Value) (h : Heap) (n : Int) (t : Tok) (h0 : 0 ≤ n) : Says w mean mg mb 135 [.int n t] 2 8 h (fun r _ => r = .none) := by
  unfold Says
  k_fill
  intro dp un gd env outer A₀ base h₀ L m s Q E hsh B F X T hf hk hdp hun ret
  subst hsh
  refine wpAny_call ?_
  refine' enter_pure (binds := [(Str.ofString "n", .int n t)]) ?k1 ?k2 ?k3 ?k5 ?kA ?kF ?kK ?k6 ?k7 ?k8 ?k9 ?kB ?_ ?c2 ?c3 ?c4 ?c5
  walk_at "m enter"
  walk_at "m steps"
  exact ret _ _ _ (Fr.keep (by assumption)) rfl
set_option maxHeartbeats 1000000 in
theorem fact1_says (w : World) (mean : ExcName → Option Value) (mg mb : Str → Option Value) (h : Heap) (W : Int) (t u : Tok) (hW : 3 ≤ W) (hW2 : W ≤ 8) : Says w mean mg mb 168 [.int 1 t, .int W u, .ref 182] 10 80 h (PList h fun rs => Can (2 ^ W.toNat) rs ∧ val (2 ^ W.toNat) rs = 1) := by
  unfold Says
  k_fill
  intro dp un gd env outer A₀ base h₀ L m s Q E hsh B F X T hf hk hdp hun ret
  subst hsh
  have hB := two_pow_ge hW
  refine wpAny_call ?_
  refine' enter_pure (binds := [(Str.ofString "n", .int 1 t), (Str.ofString "w", .int W u), (Str.ofString "mul", .ref 182)]) ?k1 ?k2 ?k3 ?k5 ?kA ?kF ?kK ?k6 ?k7 ?k8 ?k9 ?kB ?_ ?c2 ?c3 ?c4 ?c5
  walk_at "m enter"
  walk_at "m steps"
  refine Rest.out ?_
  refine' Says.use (need_count_says w mean mg mb _ 1 _ (by decide)) ?kB ?kF ?kN ?kX ?kT ?hf ?hk ?hd ?hu ?_
  walk_at "m ctx"
  rintro _ cH cTk cF cN _ rfl
  (try dsimp only)
  (try k_fold)
  walk_at "m steps"
  refine ret _ _ _ (Fr.keep (by assumption)) (list_end (by assumption) (.head _) (.cons _ _ .nil) ?_)
  exact ⟨(pw_one hB (v := 1)).1, by simp [val]⟩
set_option maxHeartbeats 1000000 in
theorem fact2_says (w : World) (mean : ExcName → Option Value) (mg mb : Str → Option Value) (h : Heap) (W : Int) (t u : Tok) (hW : 3 ≤ W) (hW2 : W ≤ 8) : Says w mean mg mb 168 [.int 2 t, .int W u, .ref 182] 11 88 h (PList h fun rs => Can (2 ^ W.toNat) rs ∧ val (2 ^ W.toNat) rs = 2) := by
  unfold Says
  k_fill
  intro dp un gd env outer A₀ base h₀ L m s Q E hsh B F X T hf hk hdp hun ret
  subst hsh
  have hB := two_pow_ge hW
  refine wpAny_call ?_
  refine' enter_pure (binds := [(Str.ofString "n", .int 2 t), (Str.ofString "w", .int W u), (Str.ofString "mul", .ref 182)]) ?k1 ?k2 ?k3 ?k5 ?kA ?kF ?kK ?k6 ?k7 ?k8 ?k9 ?kB ?_ ?c2 ?c3 ?c4 ?c5
  walk_at "m enter"
  walk_at "m steps"
  refine Rest.out ?_
  refine' Says.use (need_count_says w mean mg mb _ 2 _ (by decide)) ?kB ?kF ?kN ?kX ?kT ?hf ?hk ?hd ?hu ?_
  walk_at "m ctx"
  rintro _ cH cTk cF cN _ rfl
  (try dsimp only)
  (try k_fold)
  walk_at "m steps"
  refine Rest.out ?_
  refine' Says.useList (fact1_says w mean mg mb _ W _ u hW hW2) ?kB ?kF ?kN ?kX ?kT ?hf ?hk ?hd ?hu ?_
  walk_at "m ctx"
  intro cL1 cU1 cC1 cNs1 cH1 cTk1 cF1 cN1 cD1 cI1 cP1
  (try dsimp only)
  (try k_fold)
  have hl1 := small_len hB cP1.1 (by rw [cP1.2]; decide)
  walk_at "m steps"
  refine Rest.out ?_
  refine' Says.useList (mul_says w mean mg mb _ _ _ _ _ _ _ W u (by is_list) cI1 (by is_list) cI1 hl1 hl1 hW hW2 cP1.1.lim cP1.1.lim) ?kB ?kF ?kN ?kX ?kT ?hf ?hk ?hd ?hu ?_
  walk_at "m ctx"
  intro cL2 cU2 cC2 cNs2 cH2 cTk2 cF2 cN2 cD2 cI2 cP2
  (try dsimp only)
  (try k_fold)
  have e2 : val (2 ^ W.toNat) cNs2 = 1 := by rw [cP2.2, cP1.2]; decide
  have hl2 := small_len hB cP2.1 (by rw [e2]; decide)
  walk_at "m steps"
  refine Rest.out ?_
  refine' Says.useList (swing2_says w mean mg mb _ W _ u hW hW2) ?kB ?kF ?kN ?kX ?kT ?hf ?hk ?hd ?hu ?_
  walk_at "m ctx"
  intro cL3 cU3 cC3 cNs3 cH3 cTk3 cF3 cN3 cD3 cI3 cP3
  (try dsimp only)
  (try k_fold)
  have hl3 := small_len hB cP3.1 (by rw [cP3.2]; decide)
  walk_at "m steps"
  refine Rest.out ?_
  refine' Says.useList (mul_says w mean mg mb _ _ _ _ _ _ _ W u (by is_list) cI2 (by is_list) cI3 hl2 hl3 hW hW2 cP2.1.lim cP3.1.lim) ?kB ?kF ?kN ?kX ?kT ?hf ?hk ?hd ?hu ?_
  walk_at "m ctx"
  intro cL4 cU4 cC4 cNs4 cH4 cTk4 cF4 cN4 cD4 cI4 cP4
  (try dsimp only)
  (try k_fold)
  walk_at "m steps"
  refine ret _ _ _ (Fr.keep (by assumption)) (list_end (by assumption) (by repeat (first | exact .head _ | refine .tail _ ?_)) cI4 ?_)
  exact ⟨cP4.1, by rw [cP4.2, e2, cP3.2]; decide⟩
set_option maxHeartbeats 1000000 in
theorem fact3_says (w : World) (mean : ExcName → Option Value) (mg mb : Str → Option Value) (h : Heap) (W : Int) (t u : Tok) (hW : 3 ≤ W) (hW2 : W ≤ 8) : Says w mean mg mb 168 [.int 3 t, .int W u, .ref 182] 11 88 h (PList h fun rs => Can (2 ^ W.toNat) rs ∧ val (2 ^ W.toNat) rs = 6) := by
  unfold Says
  k_fill
  intro dp un gd env outer A₀ base h₀ L m s Q E hsh B F X T hf hk hdp hun ret
  subst hsh
  have hB := two_pow_ge hW
  refine wpAny_call ?_
  refine' enter_pure (binds := [(Str.ofString "n", .int 3 t), (Str.ofString "w", .int W u), (Str.ofString "mul", .ref 182)]) ?k1 ?k2 ?k3 ?k5 ?kA ?kF ?kK ?k6 ?k7 ?k8 ?k9 ?kB ?_ ?c2 ?c3 ?c4 ?c5
  walk_at "m enter"
  walk_at "m steps"
  refine Rest.out ?_
  refine' Says.use (need_count_says w mean mg mb _ 3 _ (by decide)) ?kB ?kF ?kN ?kX ?kT ?hf ?hk ?hd ?hu ?_
  walk_at "m ctx"
  rintro _ cH cTk cF cN _ rfl
  (try dsimp only)
  (try k_fold)
  walk_at "m steps"
  refine Rest.out ?_
  refine' Says.useList (fact1_says w mean mg mb _ W _ u hW hW2) ?kB ?kF ?kN ?kX ?kT ?hf ?hk ?hd ?hu ?_
  walk_at "m ctx"
  intro cL1 cU1 cC1 cNs1 cH1 cTk1 cF1 cN1 cD1 cI1 cP1
  (try dsimp only)
  (try k_fold)
  have hl1 := small_len hB cP1.1 (by rw [cP1.2]; decide)
  walk_at "m steps"
  refine Rest.out ?_
  refine' Says.useList (mul_says w mean mg mb _ _ _ _ _ _ _ W u (by is_list) cI1 (by is_list) cI1 hl1 hl1 hW hW2 cP1.1.lim cP1.1.lim) ?kB ?kF ?kN ?kX ?kT ?hf ?hk ?hd ?hu ?_
  walk_at "m ctx"
  intro cL2 cU2 cC2 cNs2 cH2 cTk2 cF2 cN2 cD2 cI2 cP2
  (try dsimp only)
  (try k_fold)
  have e2 : val (2 ^ W.toNat) cNs2 = 1 := by rw [cP2.2, cP1.2]; decide
  have hl2 := small_len hB cP2.1 (by rw [e2]; decide)
  walk_at "m steps"
  refine Rest.out ?_
  refine' Says.useList (swing3_says w mean mg mb _ W _ u hW hW2) ?kB ?kF ?kN ?kX ?kT ?hf ?hk ?hd ?hu ?_
  walk_at "m ctx"
  intro cL3 cU3 cC3 cNs3 cH3 cTk3 cF3 cN3 cD3 cI3 cP3
  (try dsimp only)
  (try k_fold)
  have hl3 := small_len hB cP3.1 (by rw [cP3.2]; decide)
  walk_at "m steps"
  refine Rest.out ?_
  refine' Says.useList (mul_says w mean mg mb _ _ _ _ _ _ _ W u (by is_list) cI2 (by is_list) cI3 hl2 hl3 hW hW2 cP2.1.lim cP3.1.lim) ?kB ?kF ?kN ?kX ?kT ?hf ?hk ?hd ?hu ?_
  walk_at "m ctx"
  intro cL4 cU4 cC4 cNs4 cH4 cTk4 cF4 cN4 cD4 cI4 cP4
  (try dsimp only)
  (try k_fold)
  walk_at "m steps"
  refine ret _ _ _ (Fr.keep (by assumption)) (list_end (by assumption) (by repeat (first | exact .head _ | refine .tail _ ?_)) cI4 ?_)
  exact ⟨cP4.1, by rw [cP4.2, e2, cP3.2]; decide⟩
set_option maxHeartbeats 1000000 in
theorem fact4_says (w : World) (mean : ExcName → Option Value) (mg mb : Str → Option Value) (h : Heap) (W : Int) (t u : Tok) (hW : 3 ≤ W) (hW2 : W ≤ 8) : Says w mean mg mb 168 [.int 4 t, .int W u, .ref 182] 12 96 h (PList h fun rs => Can (2 ^ W.toNat) rs ∧ val (2 ^ W.toNat) rs = 24) := by
  unfold Says
  k_fill
  intro dp un gd env outer A₀ base h₀ L m s Q E hsh B F X T hf hk hdp hun ret
  subst hsh
  have hB := two_pow_ge hW
  refine wpAny_call ?_
  refine' enter_pure (binds := [(Str.ofString "n", .int 4 t), (Str.ofString "w", .int W u), (Str.ofString "mul", .ref 182)]) ?k1 ?k2 ?k3 ?k5 ?kA ?kF ?kK ?k6 ?k7 ?k8 ?k9 ?kB ?_ ?c2 ?c3 ?c4 ?c5
  walk_at "m enter"
  walk_at "m steps"
  refine Rest.out ?_
  refine' Says.use (need_count_says w mean mg mb _ 4 _ (by decide)) ?kB ?kF ?kN ?kX ?kT ?hf ?hk ?hd ?hu ?_
  walk_at "m ctx"
  rintro _ cH cTk cF cN _ rfl
  (try dsimp only)
  (try k_fold)
  walk_at "m steps"
  refine Rest.out ?_
  refine' Says.useList (fact2_says w mean mg mb _ W _ u hW hW2) ?kB ?kF ?kN ?kX ?kT ?hf ?hk ?hd ?hu ?_
  walk_at "m ctx"
  intro cL1 cU1 cC1 cNs1 cH1 cTk1 cF1 cN1 cD1 cI1 cP1
  (try dsimp only)
  (try k_fold)
  have hl1 := small_len hB cP1.1 (by rw [cP1.2]; decide)
  walk_at "m steps"
  refine Rest.out ?_
  refine' Says.useList (mul_says w mean mg mb _ _ _ _ _ _ _ W u (by is_list) cI1 (by is_list) cI1 hl1 hl1 hW hW2 cP1.1.lim cP1.1.lim) ?kB ?kF ?kN ?kX ?kT ?hf ?hk ?hd ?hu ?_
  walk_at "m ctx"
  intro cL2 cU2 cC2 cNs2 cH2 cTk2 cF2 cN2 cD2 cI2 cP2
  (try dsimp only)
  (try k_fold)
  have e2 : val (2 ^ W.toNat) cNs2 = 4 := by rw [cP2.2, cP1.2]; decide
  have hl2 := small_len hB cP2.1 (by rw [e2]; decide)
  walk_at "m steps"
  refine Rest.out ?_
  refine' Says.useList (swing4_says w mean mg mb _ W _ u hW hW2) ?kB ?kF ?kN ?kX ?kT ?hf ?hk ?hd ?hu ?_
  walk_at "m ctx"
  intro cL3 cU3 cC3 cNs3 cH3 cTk3 cF3 cN3 cD3 cI3 cP3
  (try dsimp only)
  (try k_fold)
  have hl3 := small_len hB cP3.1 (by rw [cP3.2]; decide)
  walk_at "m steps"
  refine Rest.out ?_
  refine' Says.useList (mul_says w mean mg mb _ _ _ _ _ _ _ W u (by is_list) cI2 (by is_list) cI3 hl2 hl3 hW hW2 cP2.1.lim cP3.1.lim) ?kB ?kF ?kN ?kX ?kT ?hf ?hk ?hd ?hu ?_
  walk_at "m ctx"
  intro cL4 cU4 cC4 cNs4 cH4 cTk4 cF4 cN4 cD4 cI4 cP4
  (try dsimp only)
  (try k_fold)
  walk_at "m steps"
  refine ret _ _ _ (Fr.keep (by assumption)) (list_end (by assumption) (by repeat (first | exact .head _ | refine .tail _ ?_)) cI4 ?_)
  exact ⟨cP4.1, by rw [cP4.2, e2, cP3.2]; decide⟩

end Mine
end FFact
section MLaw
namespace Mine
open PySem PySem.W PySem.Spec PySem.Calls PyProof.Rows

/-- the parted sums of the e-th powers of the numbers below, all moved -/
noncomputable def S (mv : Int) (e : Nat) : Nat → Int
  | 0 => 0
  | i + 1 => if pop i % 2 = 1 then S mv e i - ((i : Int) + mv) ^ e else S mv e i + ((i : Int) + mv) ^ e
def facI (n : Nat) : Int := if n = 1 then 1 else if n = 2 then 2 else if n = 3 then 6 else 24
theorem law_ends0 : ∀ n : Nat, n < 5 → 1 ≤ n → ∀ k : Nat, k < 19 → (∀ e : Nat, e < n → S ((k : Int) - 9) e (2 ^ n) = 0) ∧ S ((k : Int) - 9) n (2 ^ n) = (if n % 2 = 1 then -facI n else facI n) * 2 ^ (n * (n - 1) / 2) := by decide +kernel
theorem law_ends {n : Nat} {mv : Int} (h1 : 1 ≤ n) (h4 : n ≤ 4) (m0 : -9 ≤ mv) (m1 : mv ≤ 9) : (∀ e : Nat, e < n → S mv e (2 ^ n) = 0) ∧ S mv n (2 ^ n) = (if n % 2 = 1 then -facI n else facI n) * 2 ^ (n * (n - 1) / 2) := by
  have := law_ends0 n (by omega) h1 (mv + 9).toNat (by omega)
  rw [show (((mv + 9).toNat : Nat) : Int) - 9 = mv by omega] at this
  exact this
theorem S_bound0 : ∀ i : Nat, i < 17 → ∀ e : Nat, e < 5 → ∀ k : Nat, k < 19 → -1000000000 ≤ S ((k : Int) - 9) e i ∧ S ((k : Int) - 9) e i ≤ 1000000000 := by decide +kernel
theorem S_bound {i e : Nat} {mv : Int} (hi : i ≤ 16) (he : e ≤ 4) (m0 : -9 ≤ mv) (m1 : mv ≤ 9) : -1000000000 ≤ S mv e i ∧ S mv e i ≤ 1000000000 := by
  have := S_bound0 i (by omega) e (by omega) (mv + 9).toNat (by omega)
  rw [show (((mv + 9).toNat : Nat) : Int) - 9 = mv by omega] at this
  exact this
theorem pow_bound {x : Int} {e : Nat} (h0 : -24 ≤ x) (h1 : x ≤ 24) (he : e ≤ 4) : -1000000000 ≤ x ^ e ∧ x ^ e ≤ 1000000000 := by
  have key : ∀ e : Nat, e < 5 → ∀ k : Nat, k < 49 → -1000000000 ≤ ((k : Int) - 24) ^ e ∧ ((k : Int) - 24) ^ e ≤ 1000000000 := by decide +kernel
  have := key e (by omega) (x + 24).toNat (by omega)
  rw [show (((x + 24).toNat : Nat) : Int) - 24 = x by omega] at this
  exact this
theorem sv_len {B x : Int} {b : Bool} {ns : List Int} (hB : 8 ≤ B) (h : SOk B b ns) (e : sv B b ns = x) (h0 : -1000000000 ≤ x) (h1 : x ≤ 1000000000) : ns.length ≤ 60 := by
  refine small_len hB h.1 ?_
  unfold sv at e
  split at e <;> omega
theorem sv_inj {B : Int} {b c : Bool} {ns ms : List Int} (hB : 8 ≤ B) (h : SOk B b ns) (k : SOk B c ms) (e : sv B b ns = sv B c ms) : b = c ∧ ns = ms := by
  have p : ∀ {b : Bool} {l : List Int}, SOk B b l → b = true → 0 < val B l := fun h q => h.1.pos (by omega) (h.2 q)
  have n1 := val_nonneg (show 2 ≤ B by omega) h.1.lim
  have n2 := val_nonneg (show 2 ≤ B by omega) k.1.lim
  unfold sv at e
  cases b <;> cases c
  · exact ⟨rfl, h.1.inj (by omega) k.1 (by simpa using e)⟩
  · have := p k rfl; simp at e; omega
  · have := p h rfl; simp at e; omega
  · exact ⟨rfl, h.1.inj (by omega) k.1 (by simp at e; omega)⟩
theorem sv_zero {B : Int} {b : Bool} {ns : List Int} (hB : 8 ≤ B) (h : SOk B b ns) (e : sv B b ns = 0) : b = false ∧ ns = [] :=
  sv_inj hB h ⟨Can.nil, fun q => nomatch q⟩ (by rw [e]; simp [sv, val])
theorem limb_le {B : Int} (hB : 2 ≤ B) : ∀ {l : List Int}, Lim B l → ∀ x ∈ l, x ≤ val B l
  | [], _, _, hx => nomatch hx
  | y :: r, h, x, hx => by
    have h1 := val_nonneg hB h.tail
    have h2 := (h y (.head _)).1
    rw [val_cons]
    rcases List.mem_cons.mp hx with rfl | hx
    · have := Int.mul_nonneg (show (0 : Int) ≤ B by omega) h1
      omega
    · have h3 := limb_le hB h.tail x hx
      have h4 := Int.mul_le_mul_of_nonneg_right (show 1 ≤ B by omega) h1
      omega
theorem pop_two : ∀ x : Nat, x < 8 → ∀ y : Nat, y < 2 → pop x + pop y = pop (x + 8 * y) := by decide +kernel
theorem two_pow_cases {W : Int} (h : 3 ≤ W) (h8 : W ≤ 8) : (2 : Int) ^ W.toNat = 8 ∨ 16 ≤ (2 : Int) ^ W.toNat := by
  rcases (by omega : W = 3 ∨ W = 4 ∨ W = 5 ∨ W = 6 ∨ W = 7 ∨ W = 8) with rfl | rfl | rfl | rfl | rfl | rfl <;> decide
theorem ones_of {B : Int} {ns : List Int} {a : Nat} (hB : B = 8 ∨ 16 ≤ B) (c : Can B ns) (hv : val B ns = a) (ha : a < 16) : (ns.map fun x => (pop x.toNat : Int)).sum = (pop a : Nat) := by
  have hB8 : 8 ≤ B := by omega
  match ns, c, hv with
  | [], _, hv =>
    have e : a = 0 := by simp [val] at hv; omega
    subst e
    decide
  | [x], c, hv =>
    have e : x = a := by simpa [val] using hv
    subst e
    simp
  | x :: y :: r, c, hv =>
    have h1 := c.2 (by simp)
    have h2 := ipow_le (show 2 ≤ B by omega) (show 1 ≤ (x :: y :: r).length - 1 by simp)
    rw [pow_one'] at h2
    have e8 : B = 8 := by omega
    subst e8
    have hr : r = [] := by
      have h64 : (8 : Int) ^ 2 = 64 := by decide
      have h5 := c.len_le8 (by decide) (k := 2) (by omega)
      have h6 : (x :: y :: r).length = r.length + 2 := rfl
      exact List.length_eq_zero_iff.mp (by omega)
    subst hr
    have hx := c.lim x (.head _)
    have hy := c.lim y (.tail _ (.head _))
    simp only [val_cons, val_nil] at hv
    obtain ⟨n, rfl⟩ := Int.eq_ofNat_of_zero_le hx.1
    obtain ⟨k, rfl⟩ := Int.eq_ofNat_of_zero_le hy.1
    have h3 := pop_two n (by omega) k (by omega)
    have h4 : a = n + 8 * k := by omega
    subst h4
    simp only [List.map_cons, List.map_nil, List.sum_cons, List.sum_nil, Int.toNat_natCast]
    omega
/-- v stands, by the ledger, for the signed number x -/
def Pair (B : Int) (v : Value) (Ld : List (Addr × Obj)) (x : Int) : Prop :=
  ∃ T l b vs c1 c2 ns, v = .ref T ∧ (T, tupOf #[.bool b, .ref l] c1) ∈ Ld ∧ (l, listOf (List.toArray vs) c2) ∈ Ld ∧ IntsAre vs ns ∧ SOk B b ns ∧ sv B b ns = x
theorem Pair.mono {B x : Int} {v : Value} {Ld Ld' : List (Addr × Obj)} (h : Pair B v Ld x) (k : ∀ p ∈ Ld, p ∈ Ld') : Pair B v Ld' x := by
  obtain ⟨T, l, b, vs, c1, c2, ns, e, h1, h2, h3⟩ := h
  exact ⟨T, l, b, vs, c1, c2, ns, e, k _ h1, k _ h2, h3⟩
def Sums (B : Int) (vals : List Value) (Ld : List (Addr × Obj)) (k : Nat) (f : Nat → Int) : Prop := vals.length = k ∧ ∀ e, e < k → ∃ v, vals[e]? = some v ∧ Pair B v Ld (f e)
theorem Sums.mono {B : Int} {vals : List Value} {Ld Ld' : List (Addr × Obj)} {k : Nat} {f : Nat → Int} (h : Sums B vals Ld k f) (q : ∀ p ∈ Ld, p ∈ Ld') : Sums B vals Ld' k f :=
  ⟨h.1, fun e he => by obtain ⟨v, e1, e2⟩ := h.2 e he; exact ⟨v, e1, e2.mono q⟩⟩
theorem Sums.congr {B : Int} {vals : List Value} {Ld : List (Addr × Obj)} {k : Nat} {f g : Nat → Int} (h : Sums B vals Ld k f) (q : ∀ e, e < k → f e = g e) : Sums B vals Ld k g :=
  ⟨h.1, fun e he => by rw [← q e he]; exact h.2 e he⟩
theorem Sums.set {B x : Int} {v : Value} {vals : List Value} {Ld Ld' : List (Addr × Obj)} {k i : Nat} {f g : Nat → Int} (h : Sums B vals Ld k f) (q : ∀ p ∈ Ld, p ∈ Ld') (hi : i < k) (hv : Pair B v Ld' x) (e1 : g i = x) (e2 : ∀ e, e < k → e ≠ i → g e = f e) :
    Sums B (vals.set i v) Ld' k g := by
  refine ⟨by rw [List.length_set, h.1], fun e he => ?_⟩
  by_cases c : e = i
  · subst c
    exact ⟨v, by rw [List.getElem?_set_self (by rw [h.1]; exact he)], e1 ▸ hv⟩
  · obtain ⟨u, h1, h2⟩ := h.2 e he
    exact ⟨u, by rw [List.getElem?_set_ne (Ne.symm c)]; exact h1, (e2 e he c).symm ▸ h2.mono q⟩
theorem fact_says (w : World) (mean : ExcName → Option Value) (mg mb : Str → Option Value) (h : Heap) (n W : Int) (t u : Tok) (h1 : 1 ≤ n) (h4 : n ≤ 4) (hW : 3 ≤ W) (hW2 : W ≤ 8) :
    Says w mean mg mb 168 [.int n t, .int W u, .ref 182] 12 96 h (PList h fun rs => Can (2 ^ W.toNat) rs ∧ val (2 ^ W.toNat) rs = facI n.toNat) := by
  have up : ∀ {vs : List Value} {d d' e e' : Nat} {P : Value → Heap → Prop}, d ≤ d' → e ≤ e' → Says w mean mg mb 168 vs d e h P → Says w mean mg mb 168 vs d' e' h P := by
    intro vs d d' e e' P hd he C dp un gd env outer A₀ base h₀ L m s Q E hs B F X T hf hk hdp hun ret
    exact C dp un gd env outer A₀ base h₀ L m s Q E hs B F X T hf hk (by omega) (by omega) ret
  rcases (by omega : n = 1 ∨ n = 2 ∨ n = 3 ∨ n = 4) with rfl | rfl | rfl | rfl
  · exact up (by decide) (by decide) (fact1_says w mean mg mb h W t u hW hW2)
  · exact up (by decide) (by decide) (fact2_says w mean mg mb h W t u hW hW2)
  · exact up (by decide) (by decide) (fact3_says w mean mg mb h W t u hW hW2)
  · exact fact4_says w mean mg mb h W t u hW hW2
end Mine
end MLaw
section MComp
namespace Mine
open PySem PySem.W PySem.Spec PySem.Calls PyProof.Rows PyProof.V
section
variable {prog : Program} {w : World} {A : Around} {s : Shared} {h₀ : Heap} {L : Addr} {m : Str → Option Value} {env : Env} {elt : Expr} {x : Str} {scope : Scope} {cl : List (Str × Addr)} {St : List (Addr × Obj) → Prop} {P : Nat → Value → Prop} {Fin : List Value → List (Addr × Obj) → Prop}
/-- a comprehension of any length by what holds of it -/
theorem compRest_ind (n : Nat) (Good : Nat → List Value → List (Addr × Obj) → Prop)
    (step : ∀ i ys news, Good i ys news → ∀ v I oI C oC D m₂ h tk (E' : Value → Shared → Prop), P i v → LCg.NsObj oC m₂ → m₂ x = some v → Fr h₀ L h m → News h₀ L h ((I, oI) :: (C, oC) :: (D, LCg.lst ys) :: news) → LCg.Off3 I C D news → ((@Ne Nat I C) ∧ (@Ne Nat I D) ∧ (@Ne Nat C D)) →
      wpAny (model prog w) A (eval elt (compEnvC scope cl C env)) (LCg.CompEnd h₀ L m { s with heap := h, toks := tk } I oI C oC D (LCg.lst ys) St (fun y news' => Good (i + 1) (ys ++ [y]) news')) E' { s with heap := h, toks := tk })
    (fin : ∀ ys news, Good n ys news → Fin ys news) : ∀ k i, i + k = n → ∀ ys news, Good i ys news → LCg.CompRest prog w A h₀ L m env elt x scope cl s St P Fin k i ys news := by
  intro k
  induction k with
  | zero =>
    intro i hi ys news hg
    have : i = n := by omega
    subst this
    exact LCg.CompRest.zero (fin ys news hg)
  | succ k ih =>
    intro i hi ys news hg
    refine LCg.CompRest.succ ?_
    intro v I oI C oC D m₂ h tk E' hv hC hx F N off ne
    refine wpAny_mono (step i ys news hg v I oI C oC D m₂ h tk E' hv hC hx F N off ne) (fun y s₂ p => ?_) fun _ _ e => e
    obtain ⟨h', tk', news', e, F', N', off', hS, hr⟩ := p
    exact ⟨h', tk', news', e, F', N', off', hS, ih (i + 1) (by omega) _ _ hr⟩
end
theorem off3_all {I C D : Addr} {l : List (Addr × Obj)} (h : LCg.Off3 I C D l) : ∀ p ∈ l, p.1 ≠ I ∧ p.1 ≠ C ∧ p.1 ≠ D := h.mem
theorem off1_all {D : Addr} : ∀ {l : List (Addr × Obj)}, LCg.Off1 D l → ∀ p ∈ l, p.1 ≠ D
  | [], _, _, h => nomatch h
  | q :: r, h, p, hp => by
    rcases List.mem_cons.mp hp with rfl | hp
    · exact h.1
    · exact off1_all h.2 p hp
theorem Sums.snoc {B : Int} {ys : List Value} {Ld Ld' : List (Addr × Obj)} {i : Nat} {v : Value} (h : Sums B ys Ld i fun _ => 0) (q : ∀ p ∈ Ld, p ∈ Ld') (hv : Pair B v Ld' 0) : Sums B (ys ++ [v]) Ld' (i + 1) fun _ => 0 := by
  refine ⟨by rw [List.length_append, h.1]; rfl, fun e he => ?_⟩
  by_cases c : e = i
  · exact ⟨v, by rw [c, ← h.1, List.getElem?_append_right (Nat.le_refl _), Nat.sub_self]; rfl, hv⟩
  · obtain ⟨u, h1, h2⟩ := h.2 e (by omega)
    exact ⟨u, by rw [List.getElem?_append_left (by rw [h.1]; omega)]; exact h1, h2.mono q⟩
theorem no_news {h₀ h : Heap} {L : Addr} {m : Str → Option Value} (_F : Fr h₀ L h m) : News h₀ L h [] := News.nil
theorem sub5 {α : Type} {a b c d e : α} {r : List α} : ∀ p ∈ c :: d :: e :: a :: b :: r, p ∈ a :: b :: c :: d :: e :: r := by
  intro p hp
  simp only [List.mem_cons] at hp ⊢
  rcases hp with h | h | h | h | h | h <;> simp [h]
/-- what the law keeps between its turns -/
structure LawJ (B W most mv : Int) (Ds : Addr) (own : List (Addr × Obj)) (a : Nat) (f : Nat → Int) (m : Str → Option Value) (news : List (Addr × Obj)) : Prop where
  jw : ∃ t, m (Str.ofString "w") = some (.int W t)
  jmost : ∃ t, m (Str.ofString "most") = some (.int most t)
  jmoved : ∃ t, m (Str.ofString "moved") = some (.int mv t)
  jsums : m (Str.ofString "sums") = some (.ref Ds)
  jat : ∃ t, m (Str.ofString "at") = some (.int a t)
  jled : ∃ o vals c rest, news = (Ds, o) :: (rest ++ own) ∧ o.cls = .type "list" ∧ o.data = .seq (List.toArray vals) c ∧ (∀ p ∈ rest ++ own, p.1 ≠ Ds) ∧ (∀ p ∈ rest, ∀ q ∈ own, p.1 ≠ q.1) ∧ Sums B vals rest (most + 1).toNat f
theorem LawJ.push {B W most mv : Int} {Ds : Addr} {own own2 : List (Addr × Obj)} {a : Nat} {f g : Nat → Int} {m m' : Str → Option Value} {news : List (Addr × Obj)} (J : LawJ B W most mv Ds own a f m news) (off : ∀ p ∈ news, ∀ q ∈ own2, p.1 ≠ q.1)
    (hm : m' (Str.ofString "w") = m (Str.ofString "w") ∧ m' (Str.ofString "most") = m (Str.ofString "most") ∧ m' (Str.ofString "moved") = m (Str.ofString "moved") ∧ m' (Str.ofString "sums") = m (Str.ofString "sums") ∧ m' (Str.ofString "at") = m (Str.ofString "at"))
    (hfg : ∀ e, e < (most + 1).toNat → f e = g e) : LawJ B W most mv Ds (own ++ own2) a g m' (news ++ own2) := by
  obtain ⟨h1, h2, h3, h4, h5⟩ := hm
  obtain ⟨o, vals, c, rest, rfl, hc, hd, hD, ho, hS⟩ := J.jled
  refine ⟨h1 ▸ J.jw, h2 ▸ J.jmost, h3 ▸ J.jmoved, h4 ▸ J.jsums, h5 ▸ J.jat, o, vals, c, rest, by simp, hc, hd, fun p hp => ?_, fun p hp q hq => ?_, hS.congr hfg⟩
  · rw [← List.append_assoc] at hp
    rcases List.mem_append.mp hp with hp | hp
    · exact hD p hp
    · exact fun e => off (Ds, o) (.head _) p hp e.symm
  · rcases List.mem_append.mp hq with hq | hq
    · exact ho p hp q hq
    · exact off p (.tail _ (List.mem_append_left _ hp)) q hq
theorem odd_eq {a : Nat} {k : Int} (e : k = (pop a : Nat)) : (k.fmod 2 == 1) = decide (pop a % 2 = 1) := by
  subst e
  rw [Int.fmod_eq_emod_of_nonneg _ (by decide)]
  by_cases q : pop a % 2 = 1
  · rw [decide_eq_true q, beq_iff_eq]; omega
  · rw [decide_eq_false q, beq_eq_false_iff_ne]; omega
section
variable {prog : Program} {w : World} {A : Around} {E : Value → Shared → Prop} {s : Shared} {h₀ : Heap} {L : Addr} {m : Str → Option Value}
theorem News.led_list {h : Heap} {news : List (Addr × Obj)} {l : Addr} {arr : Array Value} {c : Nat} (N : News h₀ L h news) (hm : (l, listOf arr c) ∈ news) : h.IsList l arr := ⟨_, (N _ hm).1, rfl, c, rfl⟩
theorem led_get {value slice : Expr} {Ds : Addr} {o : Obj} {vals : List Value} {c : Nat} {news : List (Addr × Obj)} {k : Nat} {z : Int} {v : Value} {u : Tok} {Q : Value → Shared → Prop} (N : News h₀ L s.heap news) (hm : (Ds, o) ∈ news) (hc : o.cls = .type "list") (hd : o.data = .seq (List.toArray vals) c)
    (e : vals[k]? = some v) (hz : z = k) (hk : k ≤ 4) (h : Q v s) (hs : subscripted slice false (.ref Ds) (.int z u) = operate [.ref Ds, .int z u] (getItem (.ref Ds) (.int z u)) := by with_unfolding_all rfl) :
    wpAny (model prog w) A (subscriptTail value slice (.ref Ds) (.int z u)) Q E s :=
  have hl : s.heap.IsList Ds vals.toArray := ⟨o, (N _ hm).1, hc, c, hd⟩
  tail_any hl.typeIs slot_list_getitem.lookup (wpAny_getItem_list hl (by omega) (by omega) (x := v) (by subst hz; simpa using e) h) hs
theorem led_set {Ds : Addr} {o : Obj} {vals : List Value} {c : Nat} {news Ld : List (Addr × Obj)} {k : Nat} {z : Int} {v : Value} {u : Tok} {Q : Unit → Shared → Prop} (F : Fr h₀ L s.heap m) (N : News h₀ L s.heap news) (hm : (Ds, o) ∈ news) (hsub : ∀ p ∈ Ld, p ∈ news) (hc : o.cls = .type "list") (hd : o.data = .seq (List.toArray vals) c)
    (hne : ∀ p ∈ Ld, p.1 ≠ Ds) (hz : z = k) (hk : k ≤ 4) (hk2 : k < vals.length)
    (hQ : ∀ h' o' c', Fr h₀ L h' m → News h₀ L h' ((Ds, o') :: Ld) → o'.cls = .type "list" → o'.data = .seq (List.toArray (vals.set k v)) c' → Q () { s with heap := h' }) :
    wpAny (model prog w) A (setItem (.ref Ds) (.int z u) v) Q E s := by
  subst hz
  refine wpAny_setItem_list ⟨o, (N _ hm).1, hc, c, hd⟩ (by omega) (by omega) (by simp; omega) fun h' hl hs => ?_
  obtain ⟨o', ho', hc', c', hd'⟩ := hl
  refine hQ h' o' c' (F.change hs (N _ hm).2.1 (N _ hm).2.2) (fun p hp => ?_) hc' (hd'.trans (by simp))
  rcases List.mem_cons.mp hp with rfl | hp
  · exact ⟨ho', (N _ hm).2.1, (N _ hm).2.2⟩
  · exact ⟨(hs.2 p.1 (hne p hp)).trans (N p (hsub p hp)).1, (N p (hsub p hp)).2⟩
end
theorem sub_led {α : Type} {a b c d e : α} {r : List α} : ∀ p ∈ a :: b :: r, p ∈ a :: b :: c :: d :: e :: r := by
  intro p hp
  simp only [List.mem_cons] at hp ⊢
  rcases hp with h | h | h <;> simp [h]
section
variable {B W most mv : Int} {Ds : Addr} {own own3 rest3 : List (Addr × Obj)} {a j i : Nat} {o3 : Obj} {vals3 : List Value}
theorem led_off {T l : Addr} {oT ol : Obj} (dT : ∀ p ∈ (Ds, o3) :: (rest3 ++ own) ++ own3, p.1 ≠ T) (dl : ∀ p ∈ (Ds, o3) :: (rest3 ++ own) ++ own3, p.1 ≠ l) (hD3 : ∀ p ∈ rest3 ++ own, p.1 ≠ Ds) (off3 : ∀ p ∈ (Ds, o3) :: (rest3 ++ own), ∀ q ∈ own3, p.1 ≠ q.1) :
    ∀ p ∈ (T, oT) :: (l, ol) :: ((rest3 ++ own) ++ own3), p.1 ≠ Ds := by
  intro p hp
  rcases List.mem_cons.mp hp with rfl | hp
  · exact (dT _ (.head _)).symm
  rcases List.mem_cons.mp hp with rfl | hp
  · exact (dl _ (.head _)).symm
  rcases List.mem_append.mp hp with hp | hp
  · exact hD3 p hp
  · exact (off3 _ (.head _) p hp).symm
/-- the end of a turn of the law's inmost loop -/
theorem law_turn {h₀ : Heap} {L : Addr} {s₁ : Shared} {h' : Heap} {tk : Nat} {m' : Str → Option Value} {o' : Obj} {c' : Nat} {T l : Addr} {b : Bool} {us : List Value} {c1 c2 : Nat} {ns : List Int}
    (F : Fr h₀ L h' m') (N : News h₀ L h' ((Ds, o') :: (T, tupOf #[.bool b, .ref l] c1) :: (l, listOf (List.toArray us) c2) :: ((rest3 ++ own) ++ own3)))
    (hoc' : o'.cls = .type "list") (hod' : o'.data = .seq (List.toArray (vals3.set j (.ref T))) c')
    (hD3 : ∀ p ∈ rest3 ++ own, p.1 ≠ Ds) (hro3 : ∀ p ∈ rest3, ∀ q ∈ own, p.1 ≠ q.1) (hS3 : Sums B vals3 rest3 (most + 1).toNat fun e => if e < j then S mv e (a + 1) else S mv e a)
    (off3 : ∀ p ∈ (Ds, o3) :: (rest3 ++ own), ∀ q ∈ own3, p.1 ≠ q.1) (dT : ∀ p ∈ (Ds, o3) :: (rest3 ++ own) ++ own3, p.1 ≠ T) (dl : ∀ p ∈ (Ds, o3) :: (rest3 ++ own) ++ own3, p.1 ≠ l)
    (hj : j < (most + 1).toNat) (hi : IntsAre us ns) (hok : SOk B b ns) (hsv : sv B b ns = S mv j (a + 1))
    (en : ∃ t, m' (Str.ofString "n") = some (.int (1 + (i : Int)) t)) (eo : m' (Str.ofString "is_odd") = some (.bool (decide (pop a % 2 = 1))))
    (j1 : ∃ t, m' (Str.ofString "w") = some (.int W t)) (j2 : ∃ t, m' (Str.ofString "most") = some (.int most t)) (j3 : ∃ t, m' (Str.ofString "moved") = some (.int mv t)) (j4 : m' (Str.ofString "sums") = some (.ref Ds)) (j5 : ∃ t, m' (Str.ofString "at") = some (.int a t)) :
    FreeEnd h₀ L (fun m nx => (∃ t, m (Str.ofString "n") = some (.int (1 + (i : Int)) t)) ∧ m (Str.ofString "is_odd") = some (.bool (decide (pop a % 2 = 1))) ∧ LawJ B W most mv Ds own a (fun e => if e < j + 1 then S mv e (a + 1) else S mv e a) m nx) own3 s₁ { s₁ with heap := h', toks := tk } := by
  have hof := led_off (oT := tupOf #[.bool b, .ref l] c1) (ol := listOf (List.toArray us) c2) dT dl hD3 off3
  refine FreeEnd.intro (news' := (Ds, o') :: (T, tupOf #[.bool b, .ref l] c1) :: (l, listOf (List.toArray us) c2) :: (rest3 ++ own)) F N ?_ ⟨en, eo, j1, j2, j3, j4, j5, o', _, c', (T, tupOf #[.bool b, .ref l] c1) :: (l, listOf (List.toArray us) c2) :: rest3, rfl, hoc', hod', ?_, ?_, ?_⟩
  · intro p hp q hq
    rcases List.mem_cons.mp hp with rfl | hp
    · exact off3 (Ds, o3) (.head _) q hq
    rcases List.mem_cons.mp hp with rfl | hp
    · exact (dT q (List.mem_append_right _ hq)).symm
    rcases List.mem_cons.mp hp with rfl | hp
    · exact (dl q (List.mem_append_right _ hq)).symm
    exact off3 p (.tail _ hp) q hq
  · intro p hp
    refine hof p ?_
    have hp : p ∈ (T, tupOf #[.bool b, .ref l] c1) :: (l, listOf (List.toArray us) c2) :: (rest3 ++ own) := hp
    simp only [List.mem_cons, List.mem_append] at hp ⊢
    rcases hp with h | h | h | h <;> simp [h]
  · intro p hp q hq
    rcases List.mem_cons.mp hp with rfl | hp
    · exact (dT q (List.mem_append_left _ (.tail _ (List.mem_append_right _ hq)))).symm
    rcases List.mem_cons.mp hp with rfl | hp
    · exact (dl q (List.mem_append_left _ (.tail _ (List.mem_append_right _ hq)))).symm
    exact hro3 p hp q hq
  · refine Sums.set hS3 (fun p hp => .tail _ (.tail _ hp)) hj ⟨T, l, b, us, c1, c2, ns, rfl, .head _, .tail _ (.head _), hi, hok, hsv⟩ ?_ ?_
    · exact if_pos (Nat.lt_succ_self _)
    · intro e _ hne
      by_cases q : e < j
      · rw [if_pos q, if_pos (by omega)]
      · rw [if_neg q, if_neg (by omega)]
end
theorem LawJ.next {B W most mv : Int} {Ds : Addr} {own : List (Addr × Obj)} {a a' : Nat} {f g : Nat → Int} {m m' : Str → Option Value} {news : List (Addr × Obj)} (J : LawJ B W most mv Ds own a f m news)
    (j1 : ∃ t, m' (Str.ofString "w") = some (.int W t)) (j2 : ∃ t, m' (Str.ofString "most") = some (.int most t)) (j3 : ∃ t, m' (Str.ofString "moved") = some (.int mv t)) (j4 : m' (Str.ofString "sums") = some (.ref Ds)) (j5 : ∃ t, m' (Str.ofString "at") = some (.int a' t))
    (hfg : ∀ e, e < (most + 1).toNat → f e = g e) : LawJ B W most mv Ds own a' g m' news := by
  obtain ⟨o, vals, c, rest, e1, e2, e3, e4, e5, hS⟩ := J.jled
  exact ⟨j1, j2, j3, j4, j5, o, vals, c, rest, e1, e2, e3, e4, e5, hS.congr hfg⟩
end Mine
end MComp
section MEnd
namespace Mine
open PySem PySem.W PySem.Spec PySem.Calls PyProof.Rows PyProof.V PySem.SeqAt
theorem reads_tup {h : Heap} {T l : Addr} {b : Bool} {vs : List Value} {ns : List Int} {c1 c2 : Nat} (hT : h.get? T = some (tupOf #[.bool b, .ref l] c1)) (hl : h.get? l = some (listOf (List.toArray vs) c2)) (hi : IntsAre vs ns) :
    ∃ as, Reads h (.ref T) (.tuple [.bool b, .list (ns.map PyData.int)]) as :=
  ⟨_, Reads.tuple hT rfl rfl (ReadsAll.cons (Reads.bool b) (ReadsAll.cons (reads_of_ints ⟨_, hl, rfl, _, rfl⟩ hi) .nil))⟩
theorem canLay_pair (b : Bool) (ns : List Int) : PyData.canLay0 (.tuple [.bool b, .list (ns.map PyData.int)]) = true := by
  simp [PyData.canLay0, PyData.canLayAll0, canLayAll0_ints]
theorem depth_pair (b : Bool) (ns : List Int) : PyData.depth (.tuple [.bool b, .list (ns.map PyData.int)]) ≤ 3 := by
  have := PySem.W.depthAll_ints ns
  simp only [PyData.depth, PyData.depthAll]
  omega
theorem canLay_rep {d : PyData} (h : d.canLay0 = true) : ∀ n : Nat, PyData.canLayAll0 (List.replicate n d) = true
  | 0 => by simp [PyData.canLayAll0]
  | n + 1 => by rw [List.replicate_succ, PyData.canLayAll0, h, canLay_rep h n]; rfl
theorem depth_rep {d : PyData} (h : d.depth ≤ 3) : ∀ n : Nat, PyData.depthAll (List.replicate n d) ≤ 3
  | 0 => by simp [PyData.depthAll]
  | n + 1 => by
    have := depth_rep h n
    rw [List.replicate_succ, PyData.depthAll]
    omega
theorem shaped_pair (b : Bool) (ns : List Int) : shaped (.tuple [.bool b, .list (ns.map PyData.int)]) = true := by
  have := depth_pair b ns
  unfold shaped
  rw [canLay_pair, Bool.true_and]
  exact decide_eq_true (by omega)
theorem shaped_rep {d : PyData} (h : d.canLay0 = true) (h3 : d.depth ≤ 3) (n : Nat) : shaped (.list (List.replicate n d)) = true := by
  have := depth_rep h3 n
  unfold shaped
  rw [PyData.canLay0, canLay_rep h n, Bool.true_and]
  exact decide_eq_true (by rw [PyData.depth]; omega)
theorem readsAll_rep {h : Heap} {d : PyData} : ∀ vs : List Value, (∀ v ∈ vs, ∃ as, Reads h v d as) → ∃ as, ReadsAll h vs (List.replicate vs.length d) as
  | [], _ => ⟨_, .nil⟩
  | v :: r, q => by
    obtain ⟨as, h1⟩ := q v (.head _)
    obtain ⟨bs, h2⟩ := readsAll_rep r (fun u hu => q u (.tail _ hu))
    exact ⟨_, .cons h1 h2⟩
section
variable {prog : Program} {w : World} {A : Around} {E : Value → Shared → Prop} {s : Shared} {h₀ : Heap} {L : Addr} {m : Str → Option Value} {news : List (Addr × Obj)}
theorem ne_self {a b : Value} {d : PyData} {Q : Value → Shared → Prop} (ra : ∃ as, Reads s.heap a d as) (rb : ∃ bs, Reads s.heap b d bs) (hd : shaped d = true) (hu : A.units + 64 < cLine) (h : Q (.bool false) s) : wpAny (model prog w) A (compareOp .NotEq a b) Q E s := by
  obtain ⟨as, ra⟩ := ra
  obtain ⟨bs, rb⟩ := rb
  refine ne_dataH ra rb hd hd hu ?_
  rw [eqv_refl d (canLay_of_shaped hd)]
  exact h
theorem ne_pair {B x : Int} {T T' l l' : Addr} {b b' : Bool} {vs us : List Value} {c1 c2 c3 c4 : Nat} {ns ms : List Int} {Q : Value → Shared → Prop} (hB : 8 ≤ B) (N : News h₀ L s.heap news) (h1 : (T, tupOf #[.bool b, .ref l] c1) ∈ news) (h2 : (l, listOf (List.toArray vs) c2) ∈ news) (h3 : (T', tupOf #[.bool b', .ref l'] c3) ∈ news) (h4 : (l', listOf (List.toArray us) c4) ∈ news)
    (hi : IntsAre vs ns) (hi' : IntsAre us ms) (ok : SOk B b ns) (ok' : SOk B b' ms) (e : sv B b ns = x) (e' : sv B b' ms = x) (hu : A.units + 64 < cLine) (h : Q (.bool false) s) : wpAny (model prog w) A (compareOp .NotEq (.ref T) (.ref T')) Q E s := by
  obtain ⟨rfl, rfl⟩ := sv_inj hB ok ok' (e.trans e'.symm)
  exact ne_self (reads_tup (N _ h1).1 (N _ h2).1 hi) (reads_tup (N _ h3).1 (N _ h4).1 hi') (shaped_pair _ _) hu h
theorem reads_zero {B : Int} {v : Value} {Ld : List (Addr × Obj)} (hB : 8 ≤ B) (N : News h₀ L s.heap news) (hsub : ∀ p ∈ Ld, p ∈ news) (hv : Pair B v Ld 0) : ∃ as, Reads s.heap v (.tuple [.bool false, .list []]) as := by
  obtain ⟨T, l, b, vs, c1, c2, ns, rfl, h1, h2, hi, ok, e⟩ := hv
  obtain ⟨rfl, rfl⟩ := sv_zero hB ok e
  exact reads_tup (N _ (hsub _ h1)).1 (N _ (hsub _ h2)).1 hi
theorem ne_zeros {B : Int} {k n : Nat} {f : Nat → Int} {vals : List Value} {Ld : List (Addr × Obj)} {D D' T0 l0 : Addr} {c1 c2 c3 c4 : Nat} {Q : Value → Shared → Prop} (hB : 8 ≤ B) (N : News h₀ L s.heap news) (hsub : ∀ p ∈ Ld, p ∈ news) (hS : Sums B vals Ld k f) (hn : n ≤ k) (hz : ∀ e, e < n → f e = 0)
    (h1 : (D, listOf (List.toArray (vals.take n)) c1) ∈ news) (h2 : (D', listOf (List.toArray (List.replicate n [Value.ref T0]).flatten) c2) ∈ news) (h3 : (T0, tupOf #[.bool false, .ref l0] c3) ∈ news) (h4 : (l0, listOf #[] c4) ∈ news)
    (hu : A.units + 64 < cLine) (h : Q (.bool false) s) : wpAny (model prog w) A (compareOp .NotEq (.ref D) (.ref D')) Q E s := by
  have r1 : ∀ v ∈ vals.take n, ∃ as, Reads s.heap v (.tuple [.bool false, .list []]) as := by
    intro v hv
    obtain ⟨e, he, rfl⟩ := List.getElem_of_mem hv
    have he' : e < n := by have := List.length_take_le n vals; omega
    obtain ⟨u, q1, q2⟩ := hS.2 e (by omega)
    rw [hz e he'] at q2
    have : u = (vals.take n)[e] := by
      rw [List.getElem_take]
      exact (List.getElem?_eq_some_iff.mp q1).2.symm
    rw [← this]
    exact reads_zero hB N hsub q2
  have r2 : ∀ v ∈ (List.replicate n [Value.ref T0]).flatten, ∃ as, Reads s.heap v (.tuple [.bool false, .list []]) as := by
    intro v hv
    obtain ⟨l, hl, hv⟩ := List.mem_flatten.mp hv
    obtain ⟨_, rfl⟩ := List.mem_replicate.mp hl
    rw [List.mem_singleton.mp hv]
    exact reads_tup (vs := []) (N _ h3).1 (N _ h4).1 .nil
  obtain ⟨as, r1⟩ := readsAll_rep _ r1
  obtain ⟨bs, r2⟩ := readsAll_rep _ r2
  rw [List.length_take, hS.1, Nat.min_eq_left hn] at r1
  rw [List.length_flatten, List.map_replicate, List.sum_replicate_nat] at r2
  simp only [List.length_singleton, Nat.mul_one] at r2
  exact ne_self ⟨_, Reads.list (N _ h1).1 rfl rfl r1⟩ ⟨_, Reads.list (N _ h2).1 rfl rfl r2⟩ (shaped_rep (canLay_pair false []) (depth_pair false []) n) hu h
theorem slice_upto (vs : List Value) {y : Int} (h : 0 ≤ y) : slicePick vs.toArray none (some y) none = (vs.take y.toNat).toArray := by
  have e : sliceBounds none (some y) none vs.toArray.size = (((0 : Nat) : Int), ((min y.toNat vs.toArray.size : Nat) : Int), 1) := by
    simp only [sliceBounds, Option.getD_none, show (1 : Int) > 0 by decide, if_true, if_neg (show ¬ (y < 0) by omega)]
    congr 1
    congr 1
    omega
  rw [kmk_pick_nat _ e]
  show ((vs.drop 0).take (min y.toNat vs.toArray.size - 0)).toArray = _
  rw [List.drop_zero, Nat.sub_zero, List.size_toArray, kmk_take_min]
theorem led_slice {value slice : Expr} {Ds : Addr} {o : Obj} {vals : List Value} {c : Nat} {y : Int} {u : Tok} {Q : Value → Shared → Prop} (F : Fr h₀ L s.heap m) (N : News h₀ L s.heap news) (hm : (Ds, o) ∈ news) (hc : o.cls = .type "list") (hd : o.data = .seq (List.toArray vals) c) (hy : 0 ≤ y) (hlen : vals.length ≤ 5)
    (h : ∀ D h', Fr h₀ L h' m → News h₀ L h' ((D, listOf (List.toArray (vals.take y.toNat)) 0) :: news) → (∀ p ∈ news, p.1 < D) → Q (.ref D) { s with heap := h' })
    (hs : subscripted slice false (.ref Ds) (.ref s.heap.objs.size) = operate [.ref s.heap.objs.size, .ref Ds] (getItem (.ref Ds) (.ref s.heap.objs.size))) (ht : ∀ r, letTemporaryGo value (.ref Ds) r = pure ()) :
    wpAny (model prog w) A (subscriptTail value slice (.ref Ds) (.ref s.heap.objs.size)) Q E { s with heap := s.heap.push { cls := .type "slice", data := .fields #[.none, .int y u, .none] } } := by
  refine kmk_slice F N ⟨o, (N _ hm).1, hc, c, hd⟩ (by kmk_part) (by kmk_part) (fun D h' F' N' l1 => h D h' F' ?_ l1) hs ht (by rw [List.size_toArray, sizeLine_eq]; omega)
  rw [slice_upto _ hy] at N'
  exact N'
end
end Mine
end MEnd
section FLaw
namespace Mine
theorem fresh_FLaw : True := by
  k_with_none
  w_top off
  trivial
open PySem PySem.W PySem.Spec PySem.Calls PyProof.Rows
local macro_rules | `(tactic| walk_at "m enter") => `(tactic| (
  (case kA => exact rfl); (case kF => assumption); (case kK => assumption); (case k1 => assumption); (case k2 => assumption); (case k3 => assumption); (case k5 => assumption); (case k6 => k_is); (case k7 => k_is); (case k8 => ((try dsimp only [around]); omega)); (case k9 => exact BindsTo.of_eq rfl); (case c5 => decide); (case kB => exact locs rfl); (case c2 => exact rfl); (case c3 => exact rfl); (case c4 => exact rfl); k_whole; intro L' h' F' N' B' X' T'; (try dsimp only); (try k_fold)))
local macro_rules | `(tactic| size_fits) => `(tactic| (refine fits_ints (by assumption) ?_; first | omega | fail "m: no length"))
local macro_rules | `(tactic| walk_at "exec While Compare cons nil") => `(tactic| (k_here; with_reducible refine Rest.mk ?_))
local macro_rules | `(tactic| walk_at "m steps") => `(tactic| repeat' (first | (k_unfold; (try dsimp only)) | walk1 | (dsimp only; first | (k_unfold; (try dsimp only)) | walk1) | (k_unmd; k_unfold; (try dsimp only))))
local macro_rules | `(tactic| kst_facts) => `(tactic| ((try dsimp only); first | exact IntsAre.nil | exact True.intro | assumption | exact IntsAre.append (by assumption) (.cons _ _ .nil)))
local macro_rules | `(tactic| walk_at "exec While BoolOp cons nil") => `(tactic| (k_here; with_reducible refine Rest.mk ?_))
local macro_rules | `(tactic| walk_at "m ctx") => `(tactic| ((case kB => assumption); (case kF => assumption); (case kN => assumption); (case kX => assumption); (case kT => assumption); (case hf => exact rfl); (case hk => exact rfl); (case hd => ((try dsimp only [around, Around.deeper]); omega)); (case hu => ((try dsimp only [around, Around.deeper]); omega))))
local macro_rules | `(tactic| walk_at "exec For Tuple Call cons nil") => `(tactic| (k_here; with_reducible refine Rest.mk ?_))
local macro_rules | `(tactic| walk_at "call type:enumerate") => `(tactic| (k_here; with_reducible refine Rest.mk ?_))
-- NOCALL
def Mid (h₀ : Heap) (L : Addr) (m : Str → Option Value) (s : Shared) (fl : Flow) (s' : Shared) : Prop :=
  fl = .next ∧ ∃ (W most mv : Int) (t1 t2 t3 : Tok) (h' : Heap) (tk : Nat), s' = { s with heap := h', toks := tk } ∧ (3 ≤ W ∧ W ≤ 8) ∧ (1 ≤ most ∧ most ≤ 4) ∧ (-9 ≤ mv ∧ mv ≤ 9) ∧
    Fr h₀ L h' (fun y => if y = Str.ofString "w" then some (.int W t1) else if y = Str.ofString "most" then some (.int most t2) else if y = Str.ofString "moved" then some (.int mv t3) else m y)
theorem mid_cut {prog : Program} {w : World} {A : Around} {E : Value → Shared → Prop} {s : Shared} {h₀ : Heap} {L : Addr} {m : Str → Option Value} {t : Sem Flow} {Q : Flow → Shared → Prop} (_F : Fr h₀ L s.heap m)
    (h1 : wpAny (model prog w) A t (Mid h₀ L m s) E s)
    (h2 : ∀ (W most mv : Int) (t1 t2 t3 : Tok) (h' : Heap) (tk : Nat), 3 ≤ W → W ≤ 8 → 1 ≤ most → most ≤ 4 → -9 ≤ mv → mv ≤ 9 →
      Fr h₀ L h' (fun y => if y = Str.ofString "w" then some (.int W t1) else if y = Str.ofString "most" then some (.int most t2) else if y = Str.ofString "moved" then some (.int mv t3) else m y) → Q .next { s with heap := h', toks := tk }) :
    wpAny (model prog w) A t Q E s := by
  refine wpAny_mono h1 (fun fl s' p => ?_) fun _ _ e => e
  obtain ⟨rfl, W, most, mv, t1, t2, t3, h', tk, rfl, a, b, c, F⟩ := p
  exact h2 W most mv t1 t2 t3 h' tk a.1 a.2 b.1 b.2 c.1 c.2 F
theorem fm_b (x : Int) {n : Int} (h : 0 < n) : 0 ≤ x.fmod n ∧ x.fmod n < n := ⟨fmod_lo x h, fmod_hi x h⟩
theorem draw6 (x : Int) : 3 ≤ 3 + x.fmod 6 ∧ 3 + x.fmod 6 ≤ 8 := by have := fm_b x (n := 6) (by decide); omega
theorem draw4 (x : Int) : 1 ≤ 1 + x.fmod 4 ∧ 1 + x.fmod 4 ≤ 4 := by have := fm_b x (n := 4) (by decide); omega
theorem draw19 (x : Int) : -9 ≤ x.fmod 19 - 9 ∧ x.fmod 19 - 9 ≤ 9 := by have := fm_b x (n := 19) (by decide); omega
theorem tri_ok : ∀ i : Nat, i < 4 → 0 ≤ ((1 + (i : Int)) * (1 + (i : Int) - 1)).fdiv 2 ∧ ((1 + (i : Int)) * (1 + (i : Int) - 1)).fdiv 2 ≤ 6 ∧ (((1 + (i : Int)) * (1 + (i : Int) - 1)).fdiv 2).toNat = (i + 1) * (i + 1 - 1) / 2 ∧ ((1 + (i : Int)).fmod 2 == 1) = decide ((i + 1) % 2 = 1) := by decide
theorem facI_le (n : Nat) : facI n ≤ 24 := by unfold facI; repeat' split
                                              all_goals omega
theorem pin_step {m m₂ : Str → Option Value} {x : Str} {v : Value} (q : m = m₂) (e : m₂ x = some v) : (fun y => if y = x then some v else m y) = m₂ := by
  subst q
  funext y
  by_cases c : y = x
  · rw [if_pos c, c, e]
  · rw [if_neg c]
theorem pin6 {h₀ h : Heap} {L : Addr} {m : Str → Option Value} {vw vm vv vs va vn : Value} {x6 : Str} (F : Fr h₀ L h m) (e1 : m (Str.ofString "w") = some vw) (e2 : m (Str.ofString "most") = some vm) (e3 : m (Str.ofString "moved") = some vv)
    (e4 : m (Str.ofString "sums") = some vs) (e5 : m (Str.ofString "at") = some va) (e6 : m x6 = some vn) :
    Fr h₀ L h (fun y => if y = x6 then some vn else if y = Str.ofString "at" then some va else if y = Str.ofString "sums" then some vs else if y = Str.ofString "moved" then some vv else if y = Str.ofString "most" then some vm else if y = Str.ofString "w" then some vw else m y) := by
  rw [pin_step (pin_step (pin_step (pin_step (pin_step (pin_step rfl e1) e2) e3) e4) e5) e6]
  exact F
inductive KeepGoing : Prop
  | mk
local macro_rules | `(tactic| walk_at "exec Assign cons Tuple") => `(tactic| (k_here; (fail_if_success (have kg9 : KeepGoing := by assumption)); with_reducible refine Rest.mk ?_))
local macro_rules | `(tactic| walk_at "call ref") => `(tactic| (k_here; (fail_if_success (have kg9 : KeepGoing := by assumption)); with_reducible refine Rest.mk ?_))
local macro_rules | `(tactic| walk_at "call type:range") => `(tactic| (k_here; (fail_if_success (have kg9 : KeepGoing := by assumption)); with_reducible refine Rest.mk ?_))
local macro_rules | `(tactic| walk_at "exec Assign cons ListComp") => `(tactic| (k_here; with_reducible refine Rest.mk ?_))
local macro_rules | `(tactic| walk_at "m ctx") => `(tactic| ((case kB => assumption); (case kF => assumption); (case kN => assumption); (case kX => assumption); (case kT => assumption); (case hf => exact rfl); (case hk => exact rfl); (case hd => first | omega | (with_unfolding_all exact of_decide_eq_true rfl)); (case hu => first | omega | (with_unfolding_all exact of_decide_eq_true rfl))))
local macro_rules | `(tactic| walk_at "subscriptTail Name Name ref int") => `(tactic| (k_here; (fail_if_success (have kg9 : KeepGoing := by assumption)); with_reducible refine Rest.mk ?_))
local macro_rules | `(tactic| walk_at "subscriptTail") => `(tactic| (k_here; (fail_if_success (have kg9 : KeepGoing := by assumption)); (with_reducible show wpAny _ _ (subscriptTail _ _ (Value.ref _) (Value.int _ _)) _ _ _); with_reducible refine Rest.mk ?_))
inductive SliceStop : Prop
  | mk
local macro_rules | `(tactic| walk_at "subscriptTail Name Slice ref ref") => `(tactic| (k_here; (have ks9 : SliceStop := by assumption); (with_reducible show wpAny _ _ (subscriptTail _ _ (Value.ref _) (Value.ref _)) _ _ _); with_reducible refine Rest.mk ?_))
local macro_rules | `(tactic| walk_at "binaryOp Mult ref int") => `(tactic| (k_here; (fail_if_success (have kg9 : KeepGoing := by assumption)); with_reducible refine Rest.mk ?_))
local macro_rules | `(tactic| walk_at "compareOp NotEq ref ref") => `(tactic| (k_here; (fail_if_success (have kg9 : KeepGoing := by assumption)); with_reducible refine Rest.mk ?_))
local macro_rules | `(tactic| walk_at "setItem ref int") => `(tactic| (k_here; (fail_if_success (have kg9 : KeepGoing := by assumption)); with_reducible refine Rest.mk ?_))
set_option maxHeartbeats 20000000 in
theorem lawT : PySem.Challenge.rw_xm0386_01.Holds := hd (by
  k_with "pyIter ref" => refine Rest.mk ?_
  k_go0
  all_goals (try k_fold)
  walk_at "m steps"
  refine Rest.out ?_
  rename Fr _ _ _ _ => F1
  refine mid_cut F1 ?_ ?_
  · have kg := KeepGoing.mk
    walk_at "m steps"
    all_goals exact ⟨rfl, _, _, _, _, _, _, _, _, rfl, draw6 _, draw4 _, draw19 _, by assumption⟩
  · intro W most mv t1 t2 t3 h' tk hW hW2 hm1 hm4 m0 m1 F2
    have N2 := no_news F2
    clear F1
    (try dsimp only)
    (try k_unmd)
    (try k_fold)
    have hB := two_pow_ge hW
    walk_at "m steps"
    refine Rest.out ?_
    k_dflt (refine LCg.Assign_ListComp_U (F₀ := by k_asm) (by rfl) (by with_unfolding_all rfl) (by with_unfolding_all rfl) (by decide) (by rfl) (by decide) (by rfl) (by rfl) (by rfl) ?_)
    (try k_fold)
    walk_at "m steps"
    refine Rest.out ?_
    have kg := KeepGoing.mk
    walk1
    clear kg
    rename IsRange _ _ _ _ _ _ _ _ => R1
    rename Fr _ _ _ _ => F3
    rename News _ _ _ _ => N3
    refine LCg.CompSrc.range (by rfl) F3 N3 R1 (small_one (by omega) (by omega) (by omega) (by omega)) (rangeSize_nat _ _) (by rw [sizeLine_eq]; omega) ?_
    intro g
    refine compRest_ind (most + 1 - 0).toNat (fun i ys news => Sums (2 ^ W.toNat) ys news i fun _ => 0) ?_ ?_ _ 0 (by omega) [] [] ⟨rfl, fun e he => absurd he (Nat.not_lt_zero _)⟩
    · clear F3 N3
      intro i ys news hS v I oI C oC D m₂ h3 tk3 E' hv hC hx F4 N4 off ne
      (try k_unmd)
      (try k_fold)
      walk_at "m steps"
      rename (_ < _ ∧ _ < _ ∧ _ < _ ∧ _ < _ ∧ AllLt _ _) => q1
      rename (_ < _ ∧ _ < _ ∧ _ < _ ∧ AllLt _ _) => q2
      refine LCg.CompEnd.intro (by assumption) (by assumption) ((_, _) :: (_, _) :: news) sub5 ⟨⟨Nat.ne_of_gt q1.2.1, Nat.ne_of_gt q1.2.2.1, Nat.ne_of_gt q1.2.2.2.1⟩, ⟨Nat.ne_of_gt q2.1, Nat.ne_of_gt q2.2.1, Nat.ne_of_gt q2.2.2.1⟩, off⟩ trivial ?_
      exact Sums.snoc hS (fun p hp => .tail _ (.tail _ hp)) ⟨_, _, false, [], _, _, [], rfl, .head _, .tail _ (.head _), .nil, ⟨Can.nil, fun q => nomatch q⟩, by simp [sv, val]⟩
    · clear F3 N3
      intro ys news hS Ds h5 tk5 F5 N5 o1
      have o1' := off1_all o1
      rw [show most + 1 - 0 = most + 1 by omega] at hS
      clear o1 R1
      (try dsimp only)
      (try k_unmd)
      (try k_fold)
      walk_at "m steps"
      refine Rest.out ?_
      have kg := KeepGoing.mk
      walk1
      clear kg
      walk_at "m steps"
      refine Rest.out ?_
      rename IsRange _ _ _ _ _ _ _ _ => R5
      rename Fr _ _ _ _ => F6
      rename News _ _ _ _ => N6
      refine iter_rangeF (fun i m nx => ∃ a : Nat, a ≤ 2 ^ (i + 1) ∧ LawJ (2 ^ W.toNat) W most mv Ds [] a (fun e => S mv e a) m nx) (by rfl) R5 (small_one (by omega) (by omega) (by omega) (by omega)) (rangeSize_nat _ _) F6 N6 ?_ ?_ ?_
      · refine ⟨0, Nat.zero_le _, ⟨⟨_, by with_unfolding_all rfl⟩, ⟨_, by with_unfolding_all rfl⟩, ⟨_, by with_unfolding_all rfl⟩, by with_unfolding_all rfl, ⟨_, by with_unfolding_all rfl⟩, LCg.lst ys, ys, _, news, ?_, rfl, rfl, ?_, ?_, ?_⟩⟩
        · rw [List.append_nil]
        · rw [List.append_nil]; exact o1'
        · exact fun _ _ _ h => nomatch h
        · exact hS
      · clear F6 N6 R5
        rintro i t9 m₁ nx h9 tk9 own hi ⟨a, ha, J⟩ off F6 N6
        have J1 : LawJ (2 ^ W.toNat) W most mv Ds own a (fun e => S mv e a) (fun y => if y = Str.ofString "n" then some (.int (1 + (i : Int)) t9) else m₁ y) (nx ++ own) := J.push off ⟨by with_unfolding_all rfl, by with_unfolding_all rfl, by with_unfolding_all rfl, by with_unfolding_all rfl, by with_unfolding_all rfl⟩ (fun _ _ => rfl)
        clear J off
        have hi4 : i < 4 := by omega
        (try k_unmd)
        (try k_fold)
        walk_at "m steps"
        refine Rest.out ?_
        rename Fr _ _ _ _ => F7
        rename News _ _ _ _ => N7
        refine While_inv2 (fun k m nx => ∃ a : Nat, a ≤ 2 ^ (i + 1) ∧ k = 2 ^ (i + 1) - a ∧ (∃ t, m (Str.ofString "n") = some (.int (1 + (i : Int)) t)) ∧ LawJ (2 ^ W.toNat) W most mv Ds own a (fun e => S mv e a) m nx) F7 N7 ⟨a, ha, rfl, ⟨_, by with_unfolding_all rfl⟩, J1⟩ ?_
        clear F7 N7 J1 ha
        rintro k m₂ nx2 h₂ tk₂ F7 N7 ⟨a, ha, rfl, ⟨tn, en⟩, J⟩
        obtain ⟨⟨tw, ew⟩, ⟨tm, em⟩, ⟨tv, ev⟩, es, ⟨ta, ea⟩, o, vals, c, rest, rfl, hoc, hod, hD, hro, hS2⟩ := J
        have F8 := pin6 F7 ew em ev es ea en
        clear F7
        (try k_unmd)
        (try k_fold)
        walk_at "m steps"
        all_goals have h16 : 2 ^ (i + 1) ≤ 16 := Nat.pow_le_pow_right (by decide) (show i + 1 ≤ 4 by omega)
        all_goals have e16 : ((2 : Int) ^ (1 + (i : Int)).toNat) = ((2 ^ (i + 1) : Nat) : Int) := by rw [show (1 + (i : Int)).toNat = i + 1 by omega, Int.natCast_pow]; rfl
        · rename ((a : Int) < _) => c1
          rw [e16] at c1
          have ha' : a < 2 ^ (i + 1) := Int.ofNat_lt.mp c1
          clear c1 e16
          refine Rest.out ?_
          refine' Says.useList (law_limbs_says _ _ _ _ _ (a : Int) W ta tw (by omega) (by omega) hW hW2) ?kB ?kF ?kN ?kX ?kT ?hf ?hk ?hd ?hu ?_
          walk_at "m ctx"
          intro cL cU cC cNs cH cTk cF cN cD cI cP
          (try dsimp only)
          (try k_fold)
          have hl1 := small_len hB cP.1 (by omega)
          walk_at "m steps"
          refine Rest.out ?_
          refine' Says.useInt (count_ones_says _ _ _ _ _ _ _ _ _ (News.isTup (by assumption) (.head _)) (by is_list) cI (by omega) (fun x hx => ⟨(cP.1.lim x hx).1, by have := limb_le (by omega) cP.1.lim x hx; omega⟩)) ?kB ?kF ?kN ?kX ?kT ?hf ?hk ?hd ?hu ?_
          walk_at "m ctx"
          intro cK2 cT2 cH2 cTk2 cF2 cN2 cP2
          (try dsimp only)
          (try k_fold)
          have ho := odd_eq (cP2.trans (ones_of (two_pow_cases hW hW2) cP.1 cP.2 (by omega)))
          clear cI cP cP2 hl1
          walk_at "m steps"
          rename Fr _ _ _ _ => F9
          rename News _ _ _ _ => N9
          rw [ho] at F9
          refine Rest.out ?_
          have kg := KeepGoing.mk
          walk1
          clear kg
          walk_at "m steps"
          refine Rest.out ?_
          rename IsRange _ _ _ _ _ _ _ _ => R10
          rename Fr _ _ _ _ => F10
          rename News _ _ _ _ => N10
          refine iter_rangeF (fun j m nx => (∃ t, m (Str.ofString "n") = some (.int (1 + (i : Int)) t)) ∧ m (Str.ofString "is_odd") = some (.bool (decide (pop a % 2 = 1))) ∧ LawJ (2 ^ W.toNat) W most mv Ds own a (fun e => if e < j then S mv e (a + 1) else S mv e a) m nx) (by rfl) R10 (small_one (by omega) (by omega) (by omega) (by omega)) (rangeSize_nat _ _) F10 (news := (Ds, o) :: (rest ++ own)) (fun p hp => N10 p (.tail _ (.tail _ hp))) ?_ ?_ ?_
          · refine ⟨⟨_, by with_unfolding_all rfl⟩, by with_unfolding_all rfl, ⟨⟨_, by with_unfolding_all rfl⟩, ⟨_, by with_unfolding_all rfl⟩, ⟨_, by with_unfolding_all rfl⟩, by with_unfolding_all rfl, ⟨_, by with_unfolding_all rfl⟩, o, vals, c, rest, rfl, hoc, hod, hD, hro, hS2.congr ?_⟩⟩
            intro e _
            rw [if_neg (Nat.not_lt_zero _)]
          · ((try clear F8); (try clear F9); (try clear F10); (try clear N7); (try clear N9); (try clear N10); (try clear R10); (try clear cF); (try clear cN); (try clear cF2); (try clear cN2))
            rintro j tj m₃ nx3 h₃ tk₃ own3 hj ⟨⟨tn3, en3⟩, eo3, J⟩ off3 F11 N11
            obtain ⟨⟨tw3, ew3⟩, ⟨tm3, em3⟩, ⟨tv3, ev3⟩, es3, ⟨ta3, ea3⟩, o3, vals3, c3, rest3, rfl, hoc3, hod3, hD3, hro3, hS3⟩ := J
            have hj4 : j ≤ 4 := by omega
            rcases Decidable.em (pop a % 2 = 1) with hp | hp
            · rw [decide_eq_true hp] at eo3
              have F12 := pin6 (x6 := Str.ofString "is_odd") (vw := .int W tw3) (vm := .int most tm3) (vv := .int mv tv3) (vs := .ref Ds) (va := .int a ta3) (vn := .bool true) F11 (by with_unfolding_all exact ew3) (by with_unfolding_all exact em3) (by with_unfolding_all exact ev3) (by with_unfolding_all exact es3) (by with_unfolding_all exact ea3) (by with_unfolding_all exact eo3)
              clear F11
              (try k_unmd)
              (try k_fold)
              walk_at "m steps"
              refine Rest.out ?_
              refine' Says.usePair (raised_says _ _ _ _ _ ((a : Int) + mv) (0 + (j : Int)) W _ _ _ (by omega) (by omega) (by omega) (by omega) hW hW2) ?kB ?kF ?kN ?kX ?kT ?hf ?hk ?hd ?hu ?_
              walk_at "m ctx"
              intro cT3 cL3 cB3 cU3 cC3 cC23 cNs3 cH3 cTk3 cF3 cN3 cD3 cD23 cI3 cP3
              (try dsimp only)
              (try k_fold)
              have hl3 := sv_len hB cP3.1 cP3.2 (pow_bound (by omega) (by omega) (by omega)).1 (pow_bound (by omega) (by omega) (by omega)).2
              walk_at "m steps"
              rename News _ _ _ _ => N20
              refine Rest.out ?_
              obtain ⟨v9, ev9, T9, l9, b9, vs9, c19, c29, ns9, rfl, hT9, hl9, hi9, hok9, hsv9⟩ := hS3.2 j (by omega)
              replace hsv9 : sv (2 ^ W.toNat) b9 ns9 = S mv j a := hsv9.trans (if_neg (Nat.lt_irrefl _))
              refine led_get N20 (.tail _ (.tail _ (.head _))) hoc3 hod3 ev9 (by omega) hj4 ?_
              (try dsimp only)
              (try k_fold)
              walk_at "m steps"
              rename News _ _ _ _ => N21
              refine Rest.out ?_
              refine' Says.usePair (s_sub_says _ _ _ _ _ T9 cT3 b9 cB3 l9 cL3 vs9 cU3 ns9 cNs3 W tw3 (News.isTup N21 (.tail _ (.tail _ (.tail _ (List.mem_append_left _ (List.mem_append_left _ hT9)))))) (News.isTup N21 (.head _)) (News.led_list N21 (.tail _ (.tail _ (.tail _ (List.mem_append_left _ (List.mem_append_left _ hl9)))))) hi9 (News.led_list N21 (.tail _ (.head _))) cI3 (sv_len hB hok9 hsv9 (S_bound (by omega) hj4 m0 m1).1 (S_bound (by omega) hj4 m0 m1).2) hl3 hW hW2 hok9.1 cP3.1.1) ?kB ?kF ?kN ?kX ?kT ?hf ?hk ?hd ?hu ?_
              walk_at "m ctx"
              intro cT4 cL4 cB4 cU4 cC4 cC24 cNs4 cH4 cTk4 cF4 cN4 cD4 cD24 cI4 cP4
              (try dsimp only)
              (try k_fold)
              walk_at "m steps"
              refine Rest.out ?_
              have dT4 : ∀ p ∈ (Ds, o3) :: (rest3 ++ own) ++ own3, p.1 ≠ cT4 := fun p hp => cD4 p (.tail _ (.tail _ hp))
              have dl4 : ∀ p ∈ (Ds, o3) :: (rest3 ++ own) ++ own3, p.1 ≠ cL4 := fun p hp => cD24 p (.tail _ (.tail _ hp))
              have hv4 : sv (2 ^ W.toNat) cB4 cNs4 = S mv j (a + 1) := cP4.2.trans (by rw [hsv9, cP3.2, show (0 + (j : Int)).toNat = j by omega]; exact (if_pos hp).symm)
              refine led_set cF4 cN4 (.tail _ (.tail _ (.tail _ (.tail _ (.head _))))) (Ld := (cT4, tupOf #[.bool cB4, .ref cL4] cC4) :: (cL4, PySem.W.listOf (List.toArray cU4) cC24) :: ((rest3 ++ own) ++ own3)) sub_led hoc3 hod3 (led_off dT4 dl4 hD3 off3) (by omega) hj4 (by rw [hS3.1]; omega) ?_
              intro h7 o7 c7 F7 N7 hoc7 hod7
              (try dsimp only)
              (try k_fold)
              walk_at "m steps"
              exact law_turn (by assumption) (by assumption) hoc7 hod7 hD3 hro3 hS3 off3 dT4 dl4 (by omega) cI4 cP4.1 hv4 ⟨_, by with_unfolding_all exact en3⟩ (by rw [decide_eq_true hp]; with_unfolding_all rfl) ⟨_, by with_unfolding_all rfl⟩ ⟨_, by with_unfolding_all rfl⟩ ⟨_, by with_unfolding_all rfl⟩ (by with_unfolding_all rfl) ⟨_, by with_unfolding_all rfl⟩
            · rw [decide_eq_false hp] at eo3
              have F12 := pin6 (x6 := Str.ofString "is_odd") (vw := .int W tw3) (vm := .int most tm3) (vv := .int mv tv3) (vs := .ref Ds) (va := .int a ta3) (vn := .bool false) F11 (by with_unfolding_all exact ew3) (by with_unfolding_all exact em3) (by with_unfolding_all exact ev3) (by with_unfolding_all exact es3) (by with_unfolding_all exact ea3) (by with_unfolding_all exact eo3)
              clear F11
              (try k_unmd)
              (try k_fold)
              walk_at "m steps"
              refine Rest.out ?_
              refine' Says.usePair (raised_says _ _ _ _ _ ((a : Int) + mv) (0 + (j : Int)) W _ _ _ (by omega) (by omega) (by omega) (by omega) hW hW2) ?kB ?kF ?kN ?kX ?kT ?hf ?hk ?hd ?hu ?_
              walk_at "m ctx"
              intro cT3 cL3 cB3 cU3 cC3 cC23 cNs3 cH3 cTk3 cF3 cN3 cD3 cD23 cI3 cP3
              (try dsimp only)
              (try k_fold)
              have hl3 := sv_len hB cP3.1 cP3.2 (pow_bound (by omega) (by omega) (by omega)).1 (pow_bound (by omega) (by omega) (by omega)).2
              walk_at "m steps"
              rename News _ _ _ _ => N20
              refine Rest.out ?_
              obtain ⟨v9, ev9, T9, l9, b9, vs9, c19, c29, ns9, rfl, hT9, hl9, hi9, hok9, hsv9⟩ := hS3.2 j (by omega)
              replace hsv9 : sv (2 ^ W.toNat) b9 ns9 = S mv j a := hsv9.trans (if_neg (Nat.lt_irrefl _))
              refine led_get N20 (.tail _ (.tail _ (.head _))) hoc3 hod3 ev9 (by omega) hj4 ?_
              (try dsimp only)
              (try k_fold)
              walk_at "m steps"
              rename News _ _ _ _ => N21
              refine Rest.out ?_
              refine' Says.usePair (s_add_says _ _ _ _ _ T9 cT3 b9 cB3 l9 cL3 vs9 cU3 ns9 cNs3 W tw3 (News.isTup N21 (.tail _ (.tail _ (.tail _ (List.mem_append_left _ (List.mem_append_left _ hT9)))))) (News.isTup N21 (.head _)) (News.led_list N21 (.tail _ (.tail _ (.tail _ (List.mem_append_left _ (List.mem_append_left _ hl9)))))) hi9 (News.led_list N21 (.tail _ (.head _))) cI3 (sv_len hB hok9 hsv9 (S_bound (by omega) hj4 m0 m1).1 (S_bound (by omega) hj4 m0 m1).2) hl3 hW hW2 hok9.1 cP3.1.1) ?kB ?kF ?kN ?kX ?kT ?hf ?hk ?hd ?hu ?_
              walk_at "m ctx"
              intro cT4 cL4 cB4 cU4 cC4 cC24 cNs4 cH4 cTk4 cF4 cN4 cD4 cD24 cI4 cP4
              (try dsimp only)
              (try k_fold)
              walk_at "m steps"
              refine Rest.out ?_
              have dT4 : ∀ p ∈ (Ds, o3) :: (rest3 ++ own) ++ own3, p.1 ≠ cT4 := fun p hp => cD4 p (.tail _ (.tail _ hp))
              have dl4 : ∀ p ∈ (Ds, o3) :: (rest3 ++ own) ++ own3, p.1 ≠ cL4 := fun p hp => cD24 p (.tail _ (.tail _ hp))
              have hv4 : sv (2 ^ W.toNat) cB4 cNs4 = S mv j (a + 1) := cP4.2.trans (by rw [hsv9, cP3.2, show (0 + (j : Int)).toNat = j by omega]; exact (if_neg hp).symm)
              refine led_set cF4 cN4 (.tail _ (.tail _ (.tail _ (.tail _ (.head _))))) (Ld := (cT4, tupOf #[.bool cB4, .ref cL4] cC4) :: (cL4, PySem.W.listOf (List.toArray cU4) cC24) :: ((rest3 ++ own) ++ own3)) sub_led hoc3 hod3 (led_off dT4 dl4 hD3 off3) (by omega) hj4 (by rw [hS3.1]; omega) ?_
              intro h7 o7 c7 F7 N7 hoc7 hod7
              (try dsimp only)
              (try k_fold)
              walk_at "m steps"
              exact law_turn (by assumption) (by assumption) hoc7 hod7 hD3 hro3 hS3 off3 dT4 dl4 (by omega) cI4 cP4.1 hv4 ⟨_, by with_unfolding_all exact en3⟩ (by rw [decide_eq_false hp]; with_unfolding_all rfl) ⟨_, by with_unfolding_all rfl⟩ ⟨_, by with_unfolding_all rfl⟩ ⟨_, by with_unfolding_all rfl⟩ (by with_unfolding_all rfl) ⟨_, by with_unfolding_all rfl⟩
          · rintro m₃ nx3 h₃ tk₃ ⟨⟨tn3, en3⟩, eo3, J⟩ F11 N11
            have F12 := pin6 (x6 := Str.ofString "n") F11 J.jw.choose_spec J.jmost.choose_spec J.jmoved.choose_spec J.jsums J.jat.choose_spec en3
            clear F11
            (try k_unmd)
            (try k_fold)
            walk_at "m steps"
            exact ⟨_, _, _, _, 2 ^ (i + 1) - (a + 1), rfl, by assumption, by assumption, by omega, a + 1, by omega, rfl, ⟨_, by with_unfolding_all rfl⟩, J.next ⟨_, by with_unfolding_all rfl⟩ ⟨_, by with_unfolding_all rfl⟩ ⟨_, by with_unfolding_all rfl⟩ (by with_unfolding_all rfl) ⟨_, by rw [Int.natCast_succ]; with_unfolding_all rfl⟩ (fun e he => if_pos (by omega))⟩
        · rename (¬((a : Int) < _)) => c1
          rw [e16] at c1
          have ea2 : a = 2 ^ (i + 1) := by omega
          clear c1 e16
          refine Rest.out ?_
          refine' Says.useList (fact_says _ _ _ _ _ (1 + (i : Int)) W tn tw (by omega) (by omega) hW hW2) ?kB ?kF ?kN ?kX ?kT ?hf ?hk ?hd ?hu ?_
          walk_at "m ctx"
          intro cL5 cU5 cC5 cNs5 cH5 cTk5 cF5 cN5 cD5 cI5 cP5
          (try dsimp only)
          (try k_fold)
          have hl5 := small_len hB cP5.1 (by rw [cP5.2]; exact Int.le_trans (facI_le _) (by decide))
          walk_at "m steps"
          refine Rest.out ?_
          refine' Says.usePair (s_shift_says _ _ _ _ _ _ _ cL5 cU5 cNs5 _ W _ _ (News.isTup (by assumption) (.head _)) (by is_list) cI5 hl5 (tri_ok i hi4).1 (tri_ok i hi4).2.1 hW hW2 cP5.1) ?kB ?kF ?kN ?kX ?kT ?hf ?hk ?hd ?hu ?_
          walk_at "m ctx"
          intro cT6 cL6 cB6 cU6 cC6 cC26 cNs6 cH6 cTk6 cF6 cN6 cD6 cD26 cI6 cP6
          (try dsimp only)
          (try k_fold)
          have ks := SliceStop.mk
          walk_at "m steps"
          clear ks
          refine Rest.out ?_
          rename Fr _ _ _ _ => F30
          rename News _ _ _ _ => N30
          refine' led_slice (y := 1 + (i : Int)) (u := tn) F30 N30 (.tail _ (.tail _ (.tail _ (.tail _ (.head _))))) hoc hod (by omega) (by rw [hS2.1]; omega) ?_ ?s ?t
          case s => with_unfolding_all rfl
          case t => kmk_pure
          intro D7 h7 F7 N7 l7
          (try k_lt l7)
          rw [show (1 + (i : Int)).toNat = i + 1 by omega] at N7
          (try dsimp only)
          (try k_fold)
          walk_at "m steps"
          refine Rest.out ?_
          rename Fr _ _ _ _ => F31
          rename News _ _ _ _ => N31
          refine KMa.mul (vs := [Value.ref _]) F31 N31 (News.led_list N31 (.head _)) (by omega) (by omega) (by simp only [List.length_singleton]; omega) (by rw [show (1 + (i : Int)).toNat = i + 1 by omega]) ?_
          intro D8 h8 F8 N8 l8
          (try dsimp only)
          (try k_fold)
          walk_at "m steps"
          refine Rest.out ?_
          rename Fr _ _ _ _ => F32
          rename News _ _ _ _ => N32
          have hL := law_ends (n := i + 1) (mv := mv) (by omega) (by omega) m0 m1
          rw [← ea2] at hL
          refine ne_zeros hB N32 (Ld := rest) (fun p hp => by repeat (first | exact List.mem_append_left _ hp | refine .tail _ ?_)) hS2 (n := i + 1) (by omega) hL.1 (by repeat (first | exact .head _ | refine .tail _ ?_)) (by repeat (first | exact .head _ | refine .tail _ ?_)) (by repeat (first | exact .head _ | refine .tail _ ?_)) (by repeat (first | exact .head _ | refine .tail _ ?_)) (by with_unfolding_all exact of_decide_eq_true rfl) ?_
          (try dsimp only)
          (try k_fold)
          walk_at "m steps"
          refine Rest.out ?_
          obtain ⟨v9, ev9, T9, l9, b9, vs9, c19, c29, ns9, rfl, hT9, hl9, hi9, hok9, hsv9⟩ := hS2.2 (i + 1) (by omega)
          refine led_get N32 (by repeat (first | exact .head _ | refine .tail _ ?_)) hoc hod ev9 (by omega) (by omega) ?_
          (try dsimp only)
          (try k_fold)
          walk_at "m steps"
          refine Rest.out ?_
          have hdue : sv (2 ^ W.toNat) cB6 cNs6 = S mv (i + 1) a := by
            rw [cP6.2, (tri_ok i hi4).2.2.1, (tri_ok i hi4).2.2.2, sv, cP5.2, show (1 + (i : Int)).toNat = i + 1 by omega, hL.2]
            simp only [decide_eq_true_eq]
          refine ne_pair hB N32 (by repeat (first | exact List.mem_append_left _ hT9 | refine .tail _ ?_)) (by repeat (first | exact List.mem_append_left _ hl9 | refine .tail _ ?_)) (by repeat (first | exact .head _ | refine .tail _ ?_)) (by repeat (first | exact .head _ | refine .tail _ ?_)) hi9 cI6 hok9 cP6.1 hsv9 hdue (by with_unfolding_all exact of_decide_eq_true rfl) ?_
          (try dsimp only)
          (try k_fold)
          walk_at "m steps"
          refine FreeEnd.intro (news' := (Ds, o) :: rest) F32 (fun p hp => N32 p (by repeat (first | exact hp | refine .tail _ ?_))) ?_ ⟨a, by rw [ea2]; exact Nat.pow_le_pow_right (by decide) (by omega), ⟨⟨_, by with_unfolding_all rfl⟩, ⟨_, by with_unfolding_all rfl⟩, ⟨_, by with_unfolding_all rfl⟩, by with_unfolding_all rfl, ⟨_, by with_unfolding_all rfl⟩, o, vals, c, rest, ?_, hoc, hod, ?_, ?_, hS2⟩⟩
          · intro p hp q hq
            rcases List.mem_cons.mp hp with rfl | hp
            · exact (hD q (List.mem_append_right _ hq)).symm
            · exact hro p hp q hq
          · rw [List.append_nil]
          · rw [List.append_nil]; exact fun p hp => hD p (List.mem_append_left _ hp)
          · exact fun _ _ _ h => nomatch h
      · rintro m₁ nx h₁ tk₁ ⟨a, ha, J⟩ F11 N11
        clear J ha F6 N6
        (try k_unmd)
        (try k_fold)
        walk_at "m steps"
        wrow_close)

end Mine
end FLaw
set_option maxRecDepth 100000 in
set_option maxHeartbeats 8000000 in
theorem PySem.Challenge.cw_xm0386_01_holds : PySem.Challenge.rw_xm0386_01.Holds := by
  exact Mine.lawT
