import PyProof.Rows.All
import Wide.All
import OpenK.AllK
import Wide.FinOn
import PySem.Challenge.RW_nz0124_01
open PySem PySem.W PyProof.Rows
set_option Elab.async false
set_option compiler.extract_closed false
namespace Nz
section
open PySem PySem.W PyProof.Rows
section
set_option maxRecDepth 100000 in
set_option maxHeartbeats 8000000 in
open_top hd for PySem.Challenge.rw_nz0124_01
end
end
section
open PySem PySem.W PyProof.Rows
section

/-- a call of the text's def `f`: from any frame whose ledger is `news`, it hands back a value and a ledger as `Ret` says -/
def CallAt (prog : Program) (w : World) (K : Frag) (p : Program) (loose : List Str) (f : Addr) (args : List Value) (dN uN : Nat) (news : List (Addr × Obj))
    (Ret : Value → List (Addr × Obj) → Prop) : Prop :=
  ∀ (mean : ExcName → Option Value) (mg mb : Str → Option Value) (dp un : Nat) (gd : Option (List Code)) (cn : Str) (cs : Scope) (a : Addr) (ccd : Value) (cl : List (Str × Addr)) (outer : List Env)
    (A₀ : Around) (base h₀ : Heap) (L : Addr) (m : Str → Option Value) (s : Shared) (Q E : Value → Shared → Prop),
    Below A₀ base outer h₀ → Fr h₀ L s.heap m → K.In h₀ → News h₀ L s.heap news → Top p loose mean mg mb h₀ → cs.kind = .function → dp + dN < recursionLimit → un + uN < cLine →
    (∀ r news' h' tk', Fr h₀ L h' m → News h₀ L h' news' → Ret r news' → Q r { s with heap := h', toks := tk' }) →
    wpAny (model prog w) (ktrTop dp un gd cn cs L a ccd cl outer) (call (.ref f) args) Q E s

/-- the ledger without the address -/
def off (x : Addr) (l : List (Addr × Obj)) : List (Addr × Obj) := l.filter fun p => decide (p.1 ≠ x)
theorem mem_off {x : Addr} {l : List (Addr × Obj)} {p : Addr × Obj} : p ∈ off x l ↔ p ∈ l ∧ p.1 ≠ x := by
  unfold off; rw [List.mem_filter]; simp
theorem off_ne {x : Addr} {l : List (Addr × Obj)} : ∀ p ∈ off x l, p.1 ≠ x := fun _ h => (mem_off.mp h).2
theorem news_sub {h₀ h : Heap} {L : Addr} {l l' : List (Addr × Obj)} (N : News h₀ L h l) (s : ∀ p ∈ l', p ∈ l) : News h₀ L h l' := fun p hp => N p (s p hp)
theorem news_front {h₀ h : Heap} {L : Addr} {l : List (Addr × Obj)} {q : Addr × Obj} (N : News h₀ L h l) (hq : q ∈ l) : News h₀ L h (q :: off q.1 l) :=
  news_sub N fun p hp => by
    rcases List.mem_cons.mp hp with rfl | hp
    · exact hq
    · exact (mem_off.mp hp).1
theorem allLt_ne {d : Addr} : ∀ {l : List (Addr × Obj)}, AllLt d l → ∀ p ∈ l, p.1 ≠ d
  | [], _, _, h => nomatch h
  | q :: l, h, p, hp => by
    rcases List.mem_cons.mp hp with rfl | hp
    · exact Nat.ne_of_lt h.1
    · exact allLt_ne h.2 p hp
end
section
theorem off_self {x : Addr} {o : Obj} {l : List (Addr × Obj)} : off x ((x, o) :: l) = off x l := by unfold off; rw [List.filter_cons_of_neg (by simp)]
theorem off_cons {x y : Addr} {o : Obj} {l : List (Addr × Obj)} (h : y ≠ x) : off x ((y, o) :: l) = (y, o) :: off x l := by unfold off; rw [List.filter_cons_of_pos (by simpa using h)]
theorem off_off {x : Addr} {l : List (Addr × Obj)} : off x (off x l) = off x l := by unfold off; rw [List.filter_filter]; simp
theorem off_id {x : Addr} {l : List (Addr × Obj)} (h : ∀ p ∈ l, p.1 ≠ x) : off x l = l := by unfold off; rw [List.filter_eq_self]; intro p hp; simpa using h p hp
theorem off_ne2 {x y : Addr} {l : List (Addr × Obj)} : ∀ p ∈ off y (off x l), p.1 ≠ x := fun _ h => off_ne _ (mem_off.mp h).1
theorem off_ne3 {x y z : Addr} {l : List (Addr × Obj)} : ∀ p ∈ off z (off y (off x l)), p.1 ≠ x := fun _ h => off_ne2 _ (mem_off.mp h).1
theorem off_ne4 {x y z u : Addr} {l : List (Addr × Obj)} : ∀ p ∈ off u (off z (off y (off x l))), p.1 ≠ x := fun _ h => off_ne3 _ (mem_off.mp h).1
theorem off_lt {x d : Addr} {l : List (Addr × Obj)} (h : ∀ p ∈ l, p.1 < d) : ∀ p ∈ off x l, p.1 < d := fun p hp => h p (mem_off.mp hp).1

theorem CallAt.use {prog : Program} {w : World} {K : Frag} {p : Program} {loose : List Str} {f : Addr} {args : List Value} {dN uN : Nat} {news : List (Addr × Obj)} {Ret : Value → List (Addr × Obj) → Prop}
    {mean : ExcName → Option Value} {mg mb : Str → Option Value} {dp un : Nat} {gd : Option (List Code)} {cn : Str} {cs : Scope} {a : Addr} {ccd : Value} {cl : List (Str × Addr)} {outer : List Env}
    {A₀ : Around} {base h₀ : Heap} {L : Addr} {m : Str → Option Value} {s : Shared} {Q E : Value → Shared → Prop} (C : CallAt prog w K p loose f args dN uN news Ret)
    (B : Below A₀ base outer h₀) (F : Fr h₀ L s.heap m) (X : K.In h₀) (N : News h₀ L s.heap news) (T : Top p loose mean mg mb h₀) (hk : cs.kind = .function) (hd : dp + dN < recursionLimit) (hu : un + uN < cLine)
    (ret : ∀ r news' h' tk', Fr h₀ L h' m → News h₀ L h' news' → Ret r news' → Q r { s with heap := h', toks := tk' }) :
    wpAny (model prog w) (ktrTop dp un gd cn cs L a ccd cl outer) (call (.ref f) args) Q E s := C _ _ _ _ _ _ _ _ _ _ _ _ _ _ _ _ _ _ _ _ B F X N T hk hd hu ret
theorem news_ne {h₀ h : Heap} {L a b : Addr} {o o' : Obj} {l : List (Addr × Obj)} (N : News h₀ L h l) (h1 : (a, o) ∈ l) (h2 : (b, o') ∈ l) (ne : o ≠ o') : a ≠ b := by
  rintro rfl
  have e := (N _ h1).1.symm.trans (N _ h2).1
  exact ne (Option.some.inj e)
theorem list_ne {xs ys : Array Value} {n k : Nat} (h : xs ≠ ys) : listOf xs n ≠ listOf ys k := by
  intro e
  have : (listOf xs n).data = (listOf ys k).data := by rw [e]
  injection this with h1 h2
  exact h h1
end
section
theorem news_fun {h₀ h : Heap} {L a : Addr} {o : Obj} {q : Addr × Obj} {l : List (Addr × Obj)} (N : News h₀ L h l) (h1 : (a, o) ∈ l) (h2 : q ∈ l) (e : q.1 = a) : q = (a, o) := by
  obtain ⟨b, o'⟩ := q
  cases e
  have e := (N _ h1).1.symm.trans (N _ h2).1
  have e2 : o = o' := Option.some.inj e
  subst e2; rfl
theorem cover {x : Addr} {o : Obj} {l : List (Addr × Obj)} (hf : ∀ q ∈ l, q.1 = x → q = (x, o)) : ∀ q ∈ l, q ∈ (x, o) :: off x l := fun q hq => by
  by_cases e : q.1 = x
  · rw [hf q hq e]; exact List.mem_cons_self ..
  · exact List.mem_cons_of_mem _ (mem_off.mpr ⟨hq, e⟩)
theorem mem_off_cons {x y : Addr} {o : Obj} {l : List (Addr × Obj)} {q : Addr × Obj} (h : q ∈ off x l) (hf : ∀ q ∈ l, q.1 = y → q = (y, o)) : q ∈ (y, o) :: off x (off y l) := by
  obtain ⟨h1, h2⟩ := mem_off.mp h
  rcases List.mem_cons.mp (cover hf q h1) with e | h3
  · rw [e]; exact List.mem_cons_self ..
  · exact List.mem_cons_of_mem _ (mem_off.mpr ⟨h3, h2⟩)
end

section
/-- a goal that the walk leaves alone -/
def Held (p : Prop) : Prop := p
theorem CallAt.useH {prog : Program} {w : World} {K : Frag} {p : Program} {loose : List Str} {f : Addr} {args : List Value} {dN uN : Nat} {news : List (Addr × Obj)} {Ret : Value → List (Addr × Obj) → Prop}
    {mean : ExcName → Option Value} {mg mb : Str → Option Value} {dp un : Nat} {gd : Option (List Code)} {cn : Str} {cs : Scope} {a : Addr} {ccd : Value} {cl : List (Str × Addr)} {outer : List Env}
    {A₀ : Around} {base h₀ : Heap} {L : Addr} {m : Str → Option Value} {s : Shared} {Q E : Value → Shared → Prop} (C : CallAt prog w K p loose f args dN uN news Ret)
    (B : Below A₀ base outer h₀) (F : Fr h₀ L s.heap m) (X : K.In h₀) (N : News h₀ L s.heap news) (T : Top p loose mean mg mb h₀) (hk : cs.kind = .function) (hd : dp + dN < recursionLimit) (hu : un + uN < cLine)
    (ret : Held (∀ r news' h' tk', Fr h₀ L h' m → News h₀ L h' news' → Ret r news' → Q r { s with heap := h', toks := tk' })) :
    wpAny (model prog w) (ktrTop dp un gd cn cs L a ccd cl outer) (call (.ref f) args) Q E s := C.use B F X N T hk hd hu ret
theorem allLt_mem {d : Addr} : ∀ {l : List (Addr × Obj)}, AllLt d l → ∀ p ∈ l, p.1 < d
  | [], _, _, h => nomatch h
  | q :: l, h, p, hp => by
    rcases List.mem_cons.mp hp with rfl | hp
    · exact h.1
    · exact allLt_mem h.2 p hp
theorem allLt_all {d : Addr} : ∀ {l : List (Addr × Obj)}, (∀ p ∈ l, p.1 < d) → AllLt d l
  | [], _ => trivial
  | q :: _, h => ⟨h q (List.mem_cons_self ..), allLt_all fun p hp => h p (List.mem_cons_of_mem _ hp)⟩
end

section
theorem cover_off {x y : Addr} {o : Obj} {l : List (Addr × Obj)} {q : Addr × Obj} (hq : q ∈ l) (hx : q.1 ≠ x) (hf : q.1 = y → q = (y, o)) : q ∈ (y, o) :: off y (off x l) := by
  by_cases e : q.1 = y
  · rw [hf e]; exact List.mem_cons_self ..
  · exact List.mem_cons_of_mem _ (mem_off.mpr ⟨mem_off.mpr ⟨hq, hx⟩, e⟩)
end
end
local macro_rules | `(tactic| k_all) => `(tactic| first | assumption | exact allLt_ne (by assumption))
section
theorem freshNzTake : True := by
  w_top off
  exact trivial
open PySem PySem.W PyProof.Rows
section
theorem fm_lo {x k : Int} (hk : 0 < k) : 0 ≤ x.fmod k := Int.fmod_nonneg_of_pos x hk
theorem fm_hi {x k : Int} (hk : 0 < k) : x.fmod k < k := Int.fmod_lt_of_pos x hk
theorem fd_lo {x k : Int} (hx : 0 ≤ x) (hk : 0 < k) : 0 ≤ x.fdiv k := Int.fdiv_nonneg hx (Int.le_of_lt hk)
theorem bits_small {x : Int} (h0 : 0 ≤ x) (h1 : x < 2147483647) : Builtin.Int.intBits x ≤ 64 := intBits_le_64 (by omega) (by omega)
local macro_rules | `(tactic| walk_at "binaryOp Mult int int") => `(tactic| refine mul_int ?_ (IntMulOk.of_left (bits_small (fm_lo (k := 2147483647) (by decide)) (fm_hi (k := 2147483647) (by decide)))))

set_option maxRecDepth 100000 in
set_option maxHeartbeats 8000000 in
theorem take_spec (w : World) (news : List (Addr × Obj)) (src : Addr) (a b top : Int) (ta tb tt : Tok) (n : Nat)
    (hsrc : (src, listOf #[.int a ta, .int b tb] n) ∈ news) (ha : 0 ≤ a) (hb : 0 ≤ b) (hb' : b < 2147483647) (htop : 0 < top) (htop' : top ≤ 64) :
    CallAt PySem.Challenge.rw_nz0124_01.row.prog w (Nz.hd.heap_39 w.params) Nz.hd.view_39 (looseW Nz.hd.view_39 [Str.ofString "LendError"]) 122 [.ref src, .int top tt] 8 64 news
      (fun r news' => ∃ (rv a' b' : Int) (tr ta' tb' : Tok), r = .int rv tr ∧ 0 ≤ rv ∧ rv < top ∧ 0 ≤ a' ∧ 0 ≤ b' ∧ b' < 2147483647 ∧ news' = (src, listOf #[.int a' ta', .int b' tb'] n) :: off src news) := by
  unfold CallAt
  k_fill
  intro mean mg mb dp un gd cn cs ad ccd cl outer A₀ base h₀ L m s Q E B F X N0 T hk hd hu hret
  have N := news_front N0 hsrc
  clear N0
  have hoff := off_ne (x := src) (l := news)
  refine wpAny_call ?_
  k_dflt ktr_enter
  k_steps
  · exact hret _ _ _ _ (by assumption) (by assumption) ⟨_, _, _, _, _, _, rfl, fm_lo htop, fm_hi htop, fd_lo ha htop, hb, hb', rfl⟩
  · exact hret _ _ _ _ (by assumption) (by assumption) ⟨_, _, _, _, _, _, rfl, fm_lo htop, fm_hi htop, ha, fm_lo (by decide), fm_hi (by decide), rfl⟩
end
end
local macro_rules | `(tactic| k_all) => `(tactic| first | assumption | exact off_ne | exact off_ne2 | exact off_ne3 | exact allLt_ne (by assumption))
section
theorem freshNzOne : True := by
  w_top off
  exact trivial
local macro_rules | `(tactic| walk_at "pad 0") => `(tactic| fail)
open PySem PySem.W PyProof.Rows
section
local macro_rules | `(tactic| walk_at "call ref") => `(tactic| (k_here; (with_reducible show wpAny _ _ (call (Value.ref 122) [Value.ref _, Value.int _ _]) _ _ _); k_dflt (refine' CallAt.use ?C ?B ?F ?X ?N ?T ?hk ?hd ?hu ?_; (case B => k_asm); (case F => k_asm); (case X => k_asm); (case N => k_asm); (case T => k_asm); (case C => exact take_spec _ _ _ _ _ _ _ _ _ _ (by k_mem) (by assumption) (by assumption) (by assumption) (by decide) (by decide)); (case hk => first | exact rfl | assumption); (case hd => ktr_room); (case hu => ktr_units)); rintro r9 n9 h9 tk9 F9 N9 ⟨rv9, a9, b9, t9, u9, v9, e9, c1, c2, c3, c4, c5, e8⟩; subst e9; subst e8; (repeat (first | rw [off_self] at N9 | rw [off_off] at N9 | rw [off_cons (by assumption)] at N9)); ((obtain q9 | q9 | q9 | q9 | q9 | q9 : rv9 = 0 ∨ rv9 = 1 ∨ rv9 = 2 ∨ rv9 = 3 ∨ rv9 = 4 ∨ rv9 = 5 := by omega) <;> subst q9)))

def wordsS : List Str := [Str.ofString "read", Str.ofString "write", Str.ofString "unique", Str.ofString "shared", Str.ofString "reserved", Str.ofString "reserved"]
set_option maxRecDepth 100000 in
set_option maxHeartbeats 8000000 in
theorem one_spec (w : World) (news : List (Addr × Obj)) (src th : Addr) (a b : Int) (ta tb t1 t2 t3 t4 t5 t6 : Tok) (n k : Nat)
    (hsrc : (src, listOf #[.int a ta, .int b tb] n) ∈ news)
    (hth : (th, listOf #[.str (Str.ofString "read") t1, .str (Str.ofString "write") t2, .str (Str.ofString "unique") t3, .str (Str.ofString "shared") t4, .str (Str.ofString "reserved") t5, .str (Str.ofString "reserved") t6] k) ∈ news)
    (ha : 0 ≤ a) (hb : 0 ≤ b) (hb' : b < 2147483647) :
    CallAt PySem.Challenge.rw_nz0124_01.row.prog w (Nz.hd.heap_39 w.params) Nz.hd.view_39 (looseW Nz.hd.view_39 [Str.ofString "LendError"]) 129 [.ref src, .ref th] 16 128 news
      (fun r news' => ∃ (x : Str) (a' b' : Int) (tr ta' tb' : Tok), r = .str x tr ∧ x ∈ wordsS ∧ (src, listOf #[.int a' ta', .int b' tb'] n) ∈ news' ∧ (∀ q ∈ news, q.1 ≠ src → q ∈ news') ∧ 0 ≤ a' ∧ 0 ≤ b' ∧ b' < 2147483647) := by
  unfold CallAt
  k_fill
  intro mean mg mb dp un gd cn cs ad ccd cl outer A₀ base h₀ L m s Q E B F X N0 T hk hd hu hret
  have hne : ¬ th = src := news_ne N0 hth hsrc (list_ne (by simp))
  have hfun : ∀ q ∈ news, q.1 = th → q = (th, _) := fun q hq e => news_fun N0 hth hq e
  have N1 := news_front N0 hth
  have N := news_front N1 (q := (src, listOf #[.int a ta, .int b tb] n)) (List.mem_cons_of_mem _ (mem_off.mpr ⟨hsrc, fun e => hne e.symm⟩))
  dsimp only at N
  rw [off_cons hne] at N
  clear N0 N1
  refine wpAny_call ?_
  k_dflt ktr_enter
  k_steps
  all_goals exact hret _ _ _ _ (by assumption) (by assumption) ⟨_, _, _, _, _, _, rfl, by simp [wordsS], List.mem_cons_self .., fun q hq e => List.mem_cons_of_mem _ (mem_off_cons (mem_off.mpr ⟨hq, e⟩) hfun), by assumption, by assumption, by assumption⟩
end
end
section
open PySem PySem.W PyProof.Rows
section
inductive Kd where
  | u
  | s
  | r
def Kd.t : Kd → Str
  | .u => Str.ofString "unique"
  | .s => Str.ofString "shared"
  | .r => Str.ofString "reserved"
def Kd.isU : Kd → Bool
  | .u => true
  | .s => false
  | .r => false
def Kd.isS : Kd → Bool
  | .u => false
  | .s => true
  | .r => false
def kvsOf (ds : List Addr) : List (Int × Value) := ds.zipIdx.map fun p => ((p.2 : Int), Value.ref p.1)
def innerKv (k : Str) (t : Tok) (al : Bool) : List (Str × Value) := [(Str.ofString "kind", .str k t), (Str.ofString "alive", .bool al)]

theorem kvs_get {ds : List Addr} {i : Nat} {d : Addr} (h : ds[i]? = some d) : (kvsOf ds)[i]? = some ((i : Int), Value.ref d) := by
  unfold kvsOf
  rw [List.getElem?_map, List.getElem?_zipIdx, h]
  simp
theorem kvs_keys (ds : List Addr) : (kvsOf ds).map (·.1) = (List.range ds.length).map fun (i : Nat) => (i : Int) := by
  refine List.ext_getElem? fun i => ?_
  unfold kvsOf
  rw [List.map_map, List.getElem?_map, List.getElem?_zipIdx, List.getElem?_map]
  by_cases h : i < ds.length
  · rw [List.getElem?_eq_getElem h, List.getElem?_range h]; simp
  · rw [List.getElem?_eq_none (Nat.le_of_not_lt h), List.getElem?_eq_none (by simpa using Nat.le_of_not_lt h)]; simp
theorem kvs_nodup (ds : List Addr) : ((kvsOf ds).map (·.1)).Nodup := by
  rw [kvs_keys]
  unfold List.Nodup
  rw [List.pairwise_map]
  exact List.Pairwise.imp (fun h e => h (by omega)) (List.nodup_range (n := ds.length))
theorem kvs_len (ds : List Addr) : (kvsOf ds).length = ds.length := by unfold kvsOf; simp
theorem kvs_at {ds : List Addr} {i : Nat} {d : Addr} (h : ds[i]? = some d) : valueAt (kvsOf ds) (i : Int) = some (Value.ref d) := valueAt_of_get (kvs_nodup ds) (kvs_get h)
theorem kvs_none {ds : List Addr} {k : Int} (h : k < 0 ∨ (ds.length : Int) ≤ k) : valueAt (kvsOf ds) k = none := by
  unfold valueAt
  rw [Option.map_eq_none_iff, List.find?_eq_none]
  intro kv hkv
  have hm : kv.1 ∈ (kvsOf ds).map (·.1) := List.mem_map_of_mem hkv
  rw [kvs_keys] at hm
  obtain ⟨i, hi, e⟩ := List.mem_map.mp hm
  have := List.mem_range.mp hi
  simp only [decide_eq_true_eq]
  omega
theorem kvs_stored (ds : List Addr) (d : Addr) : stored (kvsOf ds) (ds.length : Int) (Value.ref d) = kvsOf (ds ++ [d]) := by
  unfold stored
  have hn : ((kvsOf ds).any fun kv => decide (kv.1 = (ds.length : Int))) = false := by
    rw [List.any_eq_false]
    intro kv hkv
    have hm : kv.1 ∈ (kvsOf ds).map (·.1) := List.mem_map_of_mem hkv
    rw [kvs_keys] at hm
    obtain ⟨i, hi, e⟩ := List.mem_map.mp hm
    have := List.mem_range.mp hi
    simp only [decide_eq_true_eq]
    omega
  rw [hn]
  simp [kvsOf, List.zipIdx_append]

structure RecIn (w : World) (news : List (Addr × Obj)) (r : Addr) (ds : List Addr) (rows : List (Kd × Bool)) : Prop where
  out : ∃ ro, (r, ro) ∈ news ∧ ro.IsDictOf (PySem.intKind PySem.Challenge.rw_nz0124_01.row.prog w) (kvsOf ds)
  len : ds.length = rows.length
  nd : ds.Nodup
  rnd : r ∉ ds
  lo : (r == sysModules) = false
  inn : ∀ (i : Nat) (d : Addr) (k : Kd) (al : Bool), ds[i]? = some d → rows[i]? = some (k, al) → ∃ o t, (d, o) ∈ news ∧ o.IsDictOf (PySem.strKind PySem.Challenge.rw_nz0124_01.row.prog w) (innerKv k.t t al)
theorem RecIn.sub {w : World} {news news' : List (Addr × Obj)} {r : Addr} {ds : List Addr} {rows : List (Kd × Bool)} (R : RecIn w news r ds rows) (h : ∀ q ∈ news, q ∈ news') : RecIn w news' r ds rows :=
  ⟨let ⟨ro, h1, h2⟩ := R.out; ⟨ro, h _ h1, h2⟩, R.len, R.nd, R.rnd, R.lo, fun i d k al h1 h2 => let ⟨o, t, m, q⟩ := R.inn i d k al h1 h2; ⟨o, t, h _ m, q⟩⟩

inductive Wd where
  | rd
  | wr
  | un
  | sh
  | rs
def Wd.soft : Wd → Bool
  | .rd => true
  | .wr => false
  | .un => false
  | .sh => true
  | .rs => false
def Wd.t : Wd → Str
  | .rd => Str.ofString "read"
  | .wr => Str.ofString "write"
  | .un => Str.ofString "unique"
  | .sh => Str.ofString "shared"
  | .rs => Str.ofString "reserved"
theorem RecIn.set {w : World} {news : List (Addr × Obj)} {r : Addr} {ds : List Addr} {rows : List (Kd × Bool)} (R : RecIn w news r ds rows) {i : Nat} {d : Addr} {o' : Obj} {k' : Kd} {t' : Tok} {al' : Bool} (hd : ds[i]? = some d)
    (ho : o'.IsDictOf (PySem.strKind PySem.Challenge.rw_nz0124_01.row.prog w) (innerKv k'.t t' al')) : RecIn w ((d, o') :: off d news) r ds (rows.set i (k', al')) := by
  have hdm : d ∈ ds := List.mem_of_getElem? hd
  refine ⟨?_, by rw [R.len, List.length_set], R.nd, R.rnd, R.lo, fun j e k al h1 h2 => ?_⟩
  · obtain ⟨ro, h1, h2⟩ := R.out
    exact ⟨ro, List.mem_cons_of_mem _ (mem_off.mpr ⟨h1, fun e => R.rnd (by rw [show r = d from e]; exact hdm)⟩), h2⟩
  · by_cases hij : i = j
    · subst hij
      rw [hd] at h1
      cases h1
      have hlt : i < rows.length := by rw [← R.len]; exact (List.getElem?_eq_some_iff.mp hd).1
      rw [List.getElem?_set_self hlt] at h2
      cases h2
      exact ⟨o', t', List.mem_cons_self .., ho⟩
    · rw [List.getElem?_set_ne hij] at h2
      obtain ⟨o, t, m, q⟩ := R.inn j e k al h1 h2
      refine ⟨o, t, List.mem_cons_of_mem _ (mem_off.mpr ⟨m, fun e' => hij ?_⟩), q⟩
      have e' : e = d := e'
      subst e'
      have l1 := (List.getElem?_eq_some_iff.mp hd)
      have l2 := (List.getElem?_eq_some_iff.mp h1)
      exact (List.getElem_inj R.nd).mp (l1.2.trans l2.2.symm)
/-- is the tag there and alive -/
def aliveAt (rows : List (Kd × Bool)) (tag : Int) : Bool := if tag < 0 then false else match rows[tag.toNat]? with
  | some (_, al) => al
  | none => false
def kindAt (rows : List (Kd × Bool)) (tag : Int) : Kd := match rows[tag.toNat]? with
  | some (k, _) => k
  | none => .u
def mayAt (rows : List (Kd × Bool)) (wd : Wd) (tag : Int) : Bool := aliveAt rows tag && (wd.soft || !(kindAt rows tag).isS)

theorem RecIn.look {w : World} {news : List (Addr × Obj)} {r : Addr} {ds : List Addr} {rows : List (Kd × Bool)} {tag : Int} (R : RecIn w news r ds rows) (h0 : 0 ≤ tag) (hlt : tag < rows.length) :
    ∃ d k al o t, ds[tag.toNat]? = some d ∧ rows[tag.toNat]? = some (k, al) ∧ valueAt (kvsOf ds) tag = some (Value.ref d) ∧ (valueAt (kvsOf ds) tag).isSome = true ∧
      (d, o) ∈ news ∧ o.IsDictOf (PySem.strKind PySem.Challenge.rw_nz0124_01.row.prog w) (innerKv k.t t al) ∧ aliveAt rows tag = al ∧ kindAt rows tag = k := by
  have hlt1 : tag.toNat < rows.length := by omega
  have hlt2 : tag.toNat < ds.length := by rw [R.len]; exact hlt1
  have e1 : ds[tag.toNat]? = some ds[tag.toNat] := List.getElem?_eq_getElem hlt2
  have e2 : rows[tag.toNat]? = some (rows[tag.toNat].1, rows[tag.toNat].2) := List.getElem?_eq_getElem hlt1
  obtain ⟨o, t, ho, hdo⟩ := R.inn _ _ _ _ e1 e2
  have hval : valueAt (kvsOf ds) tag = some (Value.ref ds[tag.toNat]) := by
    have := kvs_at e1
    rwa [Int.toNat_of_nonneg h0] at this
  exact ⟨_, _, _, o, t, e1, e2, hval, by rw [hval]; rfl, ho, hdo, by unfold aliveAt; rw [if_neg (by omega), e2], by unfold kindAt; rw [e2]⟩
theorem dict_ne_list {prog : Program} {w : World} {K : Type} [DecidableEq K] {knd : KeyKind prog w K} {o : Obj} {kvs : List (K × Value)} {xs : Array Value} {n : Nat} (h : o.IsDictOf knd kvs) : o ≠ listOf xs n := by
  rintro rfl
  obtain ⟨es, ep, hx, hd, _⟩ := h
  cases hd
theorem RecIn.off_ds {w : World} {news : List (Addr × Obj)} {r : Addr} {ds : List Addr} {rows : List (Kd × Bool)} (R : RecIn w news r ds rows) {h₀ h : Heap} {L a : Addr} {o : Obj} (N : News h₀ L h news) (ha : (a, o) ∈ news)
    (hno : ∀ (o' : Obj) (k : Str) (t : Tok) (al : Bool), o'.IsDictOf (PySem.strKind PySem.Challenge.rw_nz0124_01.row.prog w) (innerKv k t al) → o' ≠ o) : a ∉ ds := fun hm => by
  obtain ⟨i, hi, rfl⟩ := List.mem_iff_getElem.mp hm
  have hi2 : i < rows.length := by rw [← R.len]; exact hi
  obtain ⟨o', t, m, q⟩ := R.inn i _ rows[i].1 rows[i].2 (List.getElem?_eq_getElem hi) (List.getElem?_eq_getElem hi2)
  exact hno _ _ _ _ q (by have := news_fun N ha m rfl; injection this)
theorem stored_alive {k : Str} {t : Tok} {al al' : Bool} : stored (innerKv k t al) (Str.ofString "alive") (.bool al') = innerKv k t al' := by
  have h1 : ¬ (Str.ofString "kind" = Str.ofString "alive") := by decide
  simp [stored, innerKv, h1]
theorem stored_kind {k k' : Str} {t t' : Tok} {al : Bool} : stored (innerKv k t al) (Str.ofString "kind") (.str k' t') = innerKv k' t' al := by
  have h1 : ¬ (Str.ofString "alive" = Str.ofString "kind") := by decide
  simp [stored, innerKv, h1]
theorem inner_kind {k : Str} {t : Tok} {al : Bool} : valueAt (innerKv k t al) (Str.ofString "kind") = some (.str k t) := by
  simp [valueAt, innerKv]
theorem inner_alive {k : Str} {t : Tok} {al : Bool} : valueAt (innerKv k t al) (Str.ofString "alive") = some (.bool al) := by
  have h1 : ¬ (Str.ofString "kind" = Str.ofString "alive") := by decide
  simp [valueAt, innerKv, h1]
theorem nz_getItem {prog : Program} {w : World} {K : Type} [DecidableEq K] {knd : KeyKind prog w K} {A : Around} {E : Value → Shared → Prop} {s : Shared} {h₀ : Heap} {L d : Addr} {news : List (Addr × Obj)} {o : Obj} {kvs : List (K × Value)} {k : K} {key v : Value} {Q : Value → Shared → Prop}
    (N : News h₀ L s.heap news) (hp : (d, o) ∈ news) (hd : o.IsDictOf knd kvs) (hkey : knd.is k key = true) (hl : valueAt kvs k = some v) (h : Q v { s with toks := s.toks + 1 }) : wpAny (model prog w) A (getItem (.ref d) key) Q E s :=
  wpAny_getItem_of hkey (kda_dict N hp hd).mapOf hl h
theorem RecIn.set' {w : World} {news news' : List (Addr × Obj)} {r : Addr} {ds : List Addr} {rows : List (Kd × Bool)} (R : RecIn w news r ds rows) {i : Nat} {d : Addr} {o' : Obj} {k' : Kd} {t' : Tok} {al' : Bool} (hd : ds[i]? = some d)
    (ho : o'.IsDictOf (PySem.strKind PySem.Challenge.rw_nz0124_01.row.prog w) (innerKv k'.t t' al')) (hm : (d, o') ∈ news') (hs : ∀ q ∈ news, q.1 ≠ d → q ∈ news') : RecIn w news' r ds (rows.set i (k', al')) :=
  (R.set hd ho).sub fun q hq => by
    rcases List.mem_cons.mp hq with e | hq
    · rw [e]; exact hm
    · exact hs q (mem_off.mp hq).1 (mem_off.mp hq).2
theorem RecIn.push {w : World} {news news' : List (Addr × Obj)} {r : Addr} {ds : List Addr} {rows : List (Kd × Bool)} (R : RecIn w news r ds rows) {D : Addr} {ro' o' : Obj} {k' : Kd} {t' : Tok} {al' : Bool} {n : Int} (hn : n = ds.length)
    (hro : ro'.IsDictOf (PySem.intKind PySem.Challenge.rw_nz0124_01.row.prog w) (stored (kvsOf ds) n (Value.ref D))) (ho : o'.IsDictOf (PySem.strKind PySem.Challenge.rw_nz0124_01.row.prog w) (innerKv k'.t t' al'))
    (hD : D ∉ ds) (hDr : r ≠ D) (hr : (r, ro') ∈ news') (hm : (D, o') ∈ news') (hs : ∀ q ∈ news, q.1 ≠ r → q ∈ news') : RecIn w news' r (ds ++ [D]) (rows ++ [(k', al')]) := by
  subst hn
  rw [kvs_stored] at hro
  refine ⟨⟨ro', hr, hro⟩, by rw [List.length_append, List.length_append, R.len]; rfl, ?_, ?_, R.lo, fun i d k al h1 h2 => ?_⟩
  · rw [List.nodup_append]
    exact ⟨R.nd, by simp, fun a ha b hb e => hD (by rw [List.mem_singleton.mp hb] at e; exact e ▸ ha)⟩
  · intro hm
    rcases List.mem_append.mp hm with h | h
    · exact R.rnd h
    · exact hDr (List.mem_singleton.mp h)
  · by_cases hi : i < ds.length
    · rw [List.getElem?_append_left hi] at h1
      rw [List.getElem?_append_left (by rw [← R.len]; exact hi)] at h2
      obtain ⟨o, t, m, q⟩ := R.inn i d k al h1 h2
      exact ⟨o, t, hs _ m fun e => R.rnd (e ▸ List.mem_of_getElem? h1), q⟩
    · have e : i = ds.length := by
        have := (List.getElem?_eq_some_iff.mp h1).1
        rw [List.length_append] at this
        simp only [List.length_singleton] at this
        omega
      subst e
      rw [List.getElem?_append_right (Nat.le_refl _)] at h1
      rw [R.len, List.getElem?_append_right (Nat.le_refl _)] at h2
      simp only [Nat.sub_self, List.getElem?_cons_zero] at h1 h2
      cases h1
      cases h2
      exact ⟨o', t', hm, ho⟩
theorem RecIn.ds_there {w : World} {news : List (Addr × Obj)} {r : Addr} {ds : List Addr} {rows : List (Kd × Bool)} (R : RecIn w news r ds rows) {d : Addr} (hd : d ∈ ds) : ∃ o, (d, o) ∈ news := by
  obtain ⟨i, hi, rfl⟩ := List.mem_iff_getElem.mp hd
  have hi2 : i < rows.length := by rw [← R.len]; exact hi
  obtain ⟨o', _, m, _⟩ := R.inn i _ rows[i].1 rows[i].2 (List.getElem?_eq_getElem hi) (List.getElem?_eq_getElem hi2)
  exact ⟨o', m⟩
theorem alive_lt {rows : List (Kd × Bool)} {tag : Int} (h : aliveAt rows tag = true) : tag < rows.length := by
  unfold aliveAt at h
  split at h
  · cases h
  · split at h
    · rename_i h1 _ _ e
      have := (List.getElem?_eq_some_iff.mp e).1
      omega
    · cases h
end
end
local macro_rules | `(tactic| walk_at "nz 1") => `(tactic| (k_here; k_dflt (refine' nz_getItem (knd := PySem.strKind _ _) ?N ?p ?d (strKind_is _ _ _ _) ?hl ?_; (case N => k_asm); (case p => k_mem); (case d => k_asm); (case hl => first | exact inner_kind | exact inner_alive))))
local macro_rules | `(tactic| walk_at "nz 2") => `(tactic| (k_here; (with_reducible show wpAny _ _ (subscriptTail _ _ (Value.ref _) (Value.int _ _)) _ _ _); k_dflt (refine' kda_item (knd := PySem.intKind _ _) ?N ?p ?d (intKind_is _ _ _ _) ?hl ?_; (case N => k_asm); (case p => k_mem); (case d => k_asm); (case hl => k_asm))))
local macro_rules | `(tactic| walk_at "nz 3") => `(tactic| (k_here; (with_reducible show wpAny _ _ (subscriptTail _ _ (Value.ref _) (Value.str _ _)) _ _ _); k_dflt (refine' kda_item (knd := PySem.strKind _ _) ?N ?p ?d (strKind_is _ _ _ _) ?hl ?_; (case N => k_asm); (case p => k_mem); (case d => k_asm); (case hl => first | exact inner_kind | exact inner_alive))))
section
theorem freshNzAlive : True := by
  w_top off
  exact trivial
open PySem PySem.W PyProof.Rows
section
local macro_rules | `(tactic| walk_at "compareOp In int ref") => `(tactic| (k_here; k_dflt (refine' kda_in (knd := PySem.intKind _ _) ?N ?p ?d ?lo (intKind_is _ _ _ _) _ ?hb ?_; (case N => k_asm); (case p => k_mem); (case d => k_asm); (case lo => k_asm); (case hb => k_asm))))
local macro_rules | `(tactic| walk_at "getItem ref str") => `(tactic| walk_at "nz 1")
local macro_rules | `(tactic| walk_at "subscriptTail") => `(tactic| walk_at "nz 2")
local macro_rules | `(tactic| walk_at "subscriptTail") => `(tactic| walk_at "nz 3")

set_option maxRecDepth 100000 in
set_option maxHeartbeats 8000000 in
theorem alive_spec (w : World) (news : List (Addr × Obj)) (r : Addr) (ds : List Addr) (rows : List (Kd × Bool)) (tag : Int) (tt : Tok) (R : RecIn w news r ds rows) (h0 : 0 ≤ tag) :
    CallAt PySem.Challenge.rw_nz0124_01.row.prog w (Nz.hd.heap_39 w.params) Nz.hd.view_39 (looseW Nz.hd.view_39 [Str.ofString "LendError"]) 136 [.ref r, .int tag tt] 8 64 news
      (fun v news' => v = .bool (aliveAt rows tag) ∧ ∀ q ∈ news, q ∈ news') := by
  unfold CallAt
  k_fill
  intro mean mg mb dp un gd cn cs ad ccd cl outer A₀ base h₀ L m s Q E B F X N T hk hd hu hret
  obtain ⟨ro, hr, hro⟩ := R.out
  have lo := R.lo
  by_cases hlt : tag.toNat < ds.length
  · have hd1 : ds[tag.toNat]? = some ds[tag.toNat] := List.getElem?_eq_getElem hlt
    have hlt2 : tag.toNat < rows.length := by rw [← R.len]; exact hlt
    have hr1 : rows[tag.toNat]? = some rows[tag.toNat] := List.getElem?_eq_getElem hlt2
    obtain ⟨o, t, ho, hdo⟩ := R.inn _ _ rows[tag.toNat].1 rows[tag.toNat].2 hd1 hr1
    have hval : valueAt (kvsOf ds) tag = some (Value.ref ds[tag.toNat]) := by
      have := kvs_at hd1
      rwa [Int.toNat_of_nonneg h0] at this
    have hsome : (valueAt (kvsOf ds) tag).isSome = true := by rw [hval]; rfl
    have hal : aliveAt rows tag = rows[tag.toNat].2 := by unfold aliveAt; rw [if_neg (by omega), hr1]
    rw [hal] at hret
    generalize rows[tag.toNat].2 = al at hret hdo
    generalize rows[tag.toNat].1 = kk at hret hdo
    generalize ds[tag.toNat] = d at hval ho
    clear hr1 hd1 hal hlt2 R
    refine wpAny_call ?_
    k_dflt ktr_enter
    k_steps
    exact hret _ _ _ _ (by assumption) (by assumption) ⟨rfl, fun _ h => h⟩
  · have hval : valueAt (kvsOf ds) tag = none := kvs_none (by omega)
    have hsome : (valueAt (kvsOf ds) tag).isSome = false := by rw [hval]; rfl
    refine wpAny_call ?_
    k_dflt ktr_enter
    k_steps
    refine hret _ _ _ _ (by assumption) (by assumption) ⟨?_, fun _ h => h⟩
    unfold aliveAt
    rw [if_neg (by omega), List.getElem?_eq_none (by rw [← R.len]; omega)]
theorem alive_use {w : World} {news : List (Addr × Obj)} {r : Addr} {ds : List Addr} {rows : List (Kd × Bool)} {tag : Int} {tt : Tok} {al : Bool} (R : RecIn w news r ds rows) (h0 : 0 ≤ tag) (hal : aliveAt rows tag = al) :
    CallAt PySem.Challenge.rw_nz0124_01.row.prog w (Nz.hd.heap_39 w.params) Nz.hd.view_39 (looseW Nz.hd.view_39 [Str.ofString "LendError"]) 136 [.ref r, .int tag tt] 8 64 news
      (fun v news' => v = .bool al ∧ ∀ q ∈ news, q ∈ news') := hal ▸ alive_spec w news r ds rows tag tt R h0
end
end
local macro_rules | `(tactic| k_mem) => `(tactic| first | exact List.mem_cons_self .. | assumption | (refine List.mem_cons_of_mem _ ?_; k_mem))
section
theorem freshNzMay : True := by
  w_top off
  exact trivial
local macro_rules | `(tactic| walk_at "pad 0") => `(tactic| fail)
open PySem PySem.W PyProof.Rows
section
local macro_rules | `(tactic| walk_at "getItem ref str") => `(tactic| walk_at "nz 1")
local macro_rules | `(tactic| walk_at "subscriptTail") => `(tactic| walk_at "nz 2")
local macro_rules | `(tactic| walk_at "subscriptTail") => `(tactic| walk_at "nz 3")
local macro_rules | `(tactic| walk_at "call ref") => `(tactic| (k_here; (with_reducible show wpAny _ _ (call (Value.ref 136) [Value.ref _, Value.int _ _]) _ _ _); k_dflt (refine' CallAt.use ?C ?B ?F ?X ?N ?T ?hk ?hd ?hu ?_; (case B => k_asm); (case F => k_asm); (case X => k_asm); (case N => k_asm); (case T => k_asm); (case C => exact alive_use (by assumption) (by assumption) (by assumption)); (case hk => first | exact rfl | assumption); (case hd => ktr_room); (case hu => ktr_units)); rintro r9 n9 h9 tk9 F9 N9 ⟨e9, s9⟩; subst e9; replace N9 := news_sub N9 s9; clear s9))

set_option maxRecDepth 100000 in
set_option maxHeartbeats 8000000 in
theorem may_spec (w : World) (news : List (Addr × Obj)) (r : Addr) (ds : List Addr) (rows : List (Kd × Bool)) (tag : Int) (tt wt : Tok) (wd : Wd) (R : RecIn w news r ds rows) (h0 : 0 ≤ tag) :
    CallAt PySem.Challenge.rw_nz0124_01.row.prog w (Nz.hd.heap_39 w.params) Nz.hd.view_39 (looseW Nz.hd.view_39 [Str.ofString "LendError"]) 150 [.ref r, .str wd.t wt, .int tag tt] 16 128 news
      (fun v news' => v = .bool (mayAt rows wd tag) ∧ ∀ q ∈ news, q ∈ news') := by
  unfold CallAt
  k_fill
  intro mean mg mb dp un gd cn cs ad ccd cl outer A₀ base h₀ L m s Q E B F X N T hk hd hu hret
  cases hal : aliveAt rows tag with
  | false =>
    have hm : mayAt rows wd tag = false := by unfold mayAt; rw [hal]; rfl
    rw [hm] at hret
    refine wpAny_call ?_
    k_dflt ktr_enter
    k_steps
    exact hret _ _ _ _ (by assumption) (by assumption) ⟨rfl, fun _ h => h⟩
  | true =>
    obtain ⟨ro, hr, hro⟩ := R.out
    have lo := R.lo
    obtain ⟨d, k, al, o, t, -, -, hval, hsome, ho, hdo, hal2, hk2⟩ := R.look h0 (alive_lt hal)
    have hm : mayAt rows wd tag = (wd.soft || !k.isS) := by unfold mayAt; rw [hal, hk2]; rfl
    rw [hm] at hret
    clear hm hal2 hk2
    cases wd <;> cases k <;> (simp only [Wd.t, Kd.t] at *; refine wpAny_call ?_; k_dflt ktr_enter; k_steps)
    all_goals exact hret _ _ _ _ (by assumption) (by assumption) ⟨rfl, fun q h => by first | exact h | exact List.mem_cons_of_mem _ h | exact List.mem_cons_of_mem _ (List.mem_cons_of_mem _ h)⟩
end
end
section
open PySem PySem.W PyProof.Rows PySem.Spec
section
section
variable {prog : Program} {w : World} {K : Type} [DecidableEq K] {knd : KeyKind prog w K} {A : Around} {E : Value → Shared → Prop} {s : Shared} {env : Env} {h₀ : Heap} {x : Str} {body : List Stmt} {Q : Flow → Shared → Prop}

/-- a for over a dict's keys: the ledger may change from turn to turn, but for the dict itself -/
theorem dict_loop {r : Addr} {ro : Obj} {kvs : List (K × Value)} {m₀ : Str → Option Value} {news : List (Addr × Obj)} (J : Nat → (Str → Option Value) → List (Addr × Obj) → Prop)
    (hh : A.handled = none) (lo : (r == sysModules) = false) (hd : ro.IsDictOf knd kvs) (hr : (r, ro) ∈ news) (F : Fr h₀ env.locals s.heap m₀) (N : News h₀ env.locals s.heap news) (hj : J 0 m₀ news)
    (turn : ∀ i k y v m₁ nx h tk I oI, kvs[i]? = some (k, y) → knd.is k v = true → (r, ro) ∈ nx → (∀ q ∈ nx, q.1 ≠ I) → J i m₁ nx → Fr h₀ env.locals h (fun z => if z = x then some v else m₁ z) → News h₀ env.locals h ((I, oI) :: nx) →
      wpAny (model prog w) A (execs body env) (InvPostG h₀ env.locals (fun m' nx' => (r, ro) ∈ nx' ∧ J (i + 1) m' nx') [(I, oI)] { s with heap := h, toks := tk } Q) E { s with heap := h, toks := tk })
    (done : ∀ m₁ nx h tk, J kvs.length m₁ nx → Fr h₀ env.locals h m₁ → News h₀ env.locals h nx → Q .next { s with heap := h, toks := tk }) :
    wpAny (model prog w) A (pyIter (.ref r)) (fun it s₂ => LoopAtV prog w A h₀ env x body Q E it s₂) E s := by
  obtain ⟨ep, ha⟩ := KdkAt.of hd
  have hor : s.heap.get? r = some ro := (N _ hr).1
  have hne : r ≠ s.heap.objs.size := Nat.ne_of_lt (Heap.lt_size hor)
  refine wpAny_pyIter_dict lo (ha.dictAt hor) ?_
  have W := Walks.dictKeys (prog := prog) (w := w) (knd := knd) hh s.heap.objs.size r hne kvs ep
  refine ⟨_, _, _, kvs.length, _, _, m₀, news, (fun i m nx => (r, ro) ∈ nx ∧ J i m nx), rfl, W, ?_, ?_, ?_, ⟨⟨_, Heap.get?_push_size _ rfl, rfl, rfl⟩, (ha.dictAt hor).at' fun o e => Heap.get?_push_of_some _ e⟩, F.push _, (fun p hp => ⟨Heap.get?_push_of_some _ (N p hp).1, (N p hp).2⟩), ⟨hr, hj⟩, ?_, ?_⟩
  · intro hm
    rcases List.mem_cons.mp hm with e | hm
    · exact absurd F.ns.lt (e ▸ Nat.lt_irrefl _)
    · exact (N _ hr).2.1 ((List.mem_singleton.mp hm).symm)
  · intro b hb
    rw [List.mem_singleton.mp hb]
    exact next_is_new F
  · intro p hp hI
    exact absurd (Heap.lt_size (N p hp).1) ((List.mem_singleton.mp hI) ▸ Nat.lt_irrefl _)
  · rintro i v m₁ nx s₁ own ⟨hh', tk', rfl⟩ hin ⟨k, y, hk, hkv⟩ ⟨hr₁, hJ⟩ hoff hown hget hfp hst F₁ N₁
    have hI0 : h₀.get? s.heap.objs.size = none := next_is_new F
    obtain ⟨⟨oI, hoI, _⟩, _⟩ := id hst
    have hIown : (s.heap.objs.size, oI) ∈ own := hfp _ (List.mem_cons.mpr (.inl rfl)) hI0 _ hoI
    have hro' : hh'.get? r = some ro := (N₁ _ (List.mem_append.mpr (.inr hr₁))).1
    have hoff' : ∀ q ∈ nx, q.1 ≠ s.heap.objs.size := fun q hq e => hoff q hq (List.mem_singleton.mpr e)
    have N₂ : News h₀ env.locals hh' ((s.heap.objs.size, oI) :: nx) := fun p hp => by
      rcases List.mem_cons.mp hp with rfl | hp
      · exact N₁ _ (List.mem_append.mpr (.inl hIown))
      · exact N₁ _ (List.mem_append.mpr (.inr hp))
    refine wpAny_mono (turn i k y v m₁ nx hh' tk' _ oI hk hkv hr₁ hoff' hJ F₁ N₂) (fun f s₂ p => ?_) fun _ _ e => e
    have fin : InvEndG h₀ env.locals (fun m' nx' => (r, ro) ∈ nx' ∧ J (i + 1) m' nx') [(s.heap.objs.size, oI)] { s with heap := hh', toks := tk' } s₂ →
        LoopStepU h₀ env.locals [s.heap.objs.size] own (fun m nx => (r, ro) ∈ nx ∧ J (i + 1) m nx) { s with heap := hh', toks := tk' } .next s₂ := by
      rintro ⟨h', tk, m', news', nx', e, F', N', hn, ho, hoo, hm⟩
      refine ⟨rfl, h', tk, m', nx', e, F', fun p hp => ?_, fun p hp hq => ?_, hm⟩
      · rcases List.mem_append.mp hp with h | h
        · rcases List.mem_cons.mp (hown p h) with hI | h1
          · have h2 : hh'.get? p.1 = some p.2 := hget p h
            rw [hI, hoI] at h2
            have h3 : p = (s.heap.objs.size, oI) := Prod.ext hI (Option.some.inj h2).symm
            rw [h3]
            exact N' _ (ho _ (List.mem_singleton.mpr rfl))
          · have h1 : p.1 = r := List.mem_singleton.mp h1
            have h2 : hh'.get? p.1 = some p.2 := hget p h
            rw [h1, hro'] at h2
            have h3 : p = (r, ro) := Prod.ext h1 (Option.some.inj h2).symm
            rw [h3]
            exact N' _ (hn _ hm.1)
        · exact N' p (hn p h)
      · exact hoo _ (List.mem_singleton.mpr rfl) p.1 (List.mem_map.mpr ⟨p, hp, rfl⟩) (List.mem_singleton.mp hq).symm
    cases f with
    | ret v => exact .ret p
    | brk => exact .brk p
    | next => exact .next (fin p)
    | cont => exact .cont (fin p)
  · rintro h' tk m' news' F' N' _ ⟨_, hJ⟩
    exact done m' news' h' tk hJ F' N'

theorem map_x {m₁ m₀ : Str → Option Value} {v : Value} (hm : ∀ z, z ≠ x → m₁ z = m₀ z) : (fun z => if z = x then some v else m₁ z) = fun z => if z = x then some v else m₀ z := by
  funext z
  by_cases h1 : z = x
  · simp [h1]
  · simp only [if_neg h1]; exact hm z h1
theorem map_u {m₁ m₀ : Str → Option Value} (hm : ∀ z, z ≠ x → m₁ z = m₀ z) : (fun z => if z = x then m₁ z else m₀ z) = m₁ := by
  funext z
  by_cases h1 : z = x
  · simp [h1]
  · simp only [if_neg h1]; exact (hm z h1).symm
/-- the same, where the body stores no other name -/
theorem dict_loop0 {r : Addr} {ro : Obj} {kvs : List (K × Value)} {m₀ : Str → Option Value} {news : List (Addr × Obj)} (J : Nat → List (Addr × Obj) → Prop)
    (hh : A.handled = none) (lo : (r == sysModules) = false) (hd : ro.IsDictOf knd kvs) (hr : (r, ro) ∈ news) (F : Fr h₀ env.locals s.heap m₀) (N : News h₀ env.locals s.heap news) (hj : J 0 news)
    (turn : ∀ i k y v nx h tk I oI, kvs[i]? = some (k, y) → knd.is k v = true → (r, ro) ∈ nx → (∀ q ∈ nx, q.1 ≠ I) → J i nx → Fr h₀ env.locals h (fun z => if z = x then some v else m₀ z) → News h₀ env.locals h ((I, oI) :: nx) →
      wpAny (model prog w) A (execs body env) (InvPostG h₀ env.locals (fun m' nx' => (r, ro) ∈ nx' ∧ (∀ z, z ≠ x → m' z = m₀ z) ∧ J (i + 1) nx') [(I, oI)] { s with heap := h, toks := tk } Q) E { s with heap := h, toks := tk })
    (done : ∀ (u : Str → Option Value) nx h tk, J kvs.length nx → Fr h₀ env.locals h (fun z => if z = x then u z else m₀ z) → News h₀ env.locals h nx → Q .next { s with heap := h, toks := tk }) :
    wpAny (model prog w) A (pyIter (.ref r)) (fun it s₂ => LoopAtV prog w A h₀ env x body Q E it s₂) E s :=
  dict_loop (knd := knd) (fun i m nx => (∀ z, z ≠ x → m z = m₀ z) ∧ J i nx) hh lo hd hr F N ⟨fun _ _ => rfl, hj⟩
    (fun i k y v m₁ nx h tk I oI h1 h2 h3 h4 h5 F₁ N₁ => turn i k y v nx h tk I oI h1 h2 h3 h4 h5.2 (map_x h5.1 ▸ F₁) N₁)
    fun m₁ nx h tk h5 F₁ N₁ => done m₁ nx h tk h5.2 ((map_u h5.1).symm ▸ F₁) N₁

theorem inv_end {L : Addr} {J : (Str → Option Value) → List (Addr × Obj) → Prop} {m' : Str → Option Value} {news' : List (Addr × Obj)} {s₁ : Shared} {h' : Heap} {tk : Nat} {I : Addr} {oI : Obj} (nx : List (Addr × Obj)) (F : Fr h₀ L h' m') (N : News h₀ L h' news')
    (hj : J m' nx) (hI : ∀ q ∈ nx, q.1 ≠ I) (hn : ∀ p ∈ nx, p ∈ news') (hi : (I, oI) ∈ news') : InvEndG h₀ L J [(I, oI)] s₁ { s₁ with heap := h', toks := tk } :=
  InvEndG.intro F N hj (fun p hp b hb e => by
    obtain ⟨q, hq, rfl⟩ := List.mem_map.mp hb
    rw [List.mem_singleton.mp hp] at e
    exact hI q hq e.symm) hn fun p hp => by rw [List.mem_singleton.mp hp]; exact hi
end
end
end
local macro_rules | `(tactic| walk_at "nz 4") => `(tactic| (k_here; k_dflt (refine' kda_set (knd := PySem.strKind _ _) ?F ?N ?U ?d (strKind_is _ _ _ _) ?z ?_; (case F => k_asm); (case N => k_asm); (case U => k_updF); (case d => k_asm); (case z => rw [sizeLine_eq]; exact Nat.le_of_ble_eq_true (by with_unfolding_all rfl))); intro h' o' F' N' hd'; (try dsimp only at N')))
section
theorem freshNzEnd : True := by
  w_top off
  exact trivial
open PySem PySem.W PyProof.Rows
section
/-- what _law_end makes of a row -/
def endRow (tag : Int) (full : Bool) (i : Nat) (row : Kd × Bool) : Kd × Bool := if tag < (i : Int) ∧ row.2 = true ∧ (full = true ∨ row.1.isU = true) then (row.1, false) else row
def endTo (tag : Int) (full : Bool) (n : Nat) (rows : List (Kd × Bool)) : List (Kd × Bool) := rows.mapIdx fun i row => if i < n then endRow tag full i row else row
theorem endTo_zero {tag : Int} {full : Bool} {rows : List (Kd × Bool)} : endTo tag full 0 rows = rows := by
  unfold endTo
  refine List.ext_getElem? fun i => ?_
  rw [List.getElem?_mapIdx]
  cases rows[i]? <;> simp
theorem endTo_succ {tag : Int} {full : Bool} {rows : List (Kd × Bool)} {i : Nat} {row : Kd × Bool} (h : rows[i]? = some row) : endTo tag full (i + 1) rows = (endTo tag full i rows).set i (endRow tag full i row) := by
  unfold endTo
  refine List.ext_getElem? fun j => ?_
  have hlt : i < rows.length := (List.getElem?_eq_some_iff.mp h).1
  by_cases hij : i = j
  · subst hij
    rw [List.getElem?_set_self (by simpa using hlt), List.getElem?_mapIdx, h]
    simp
  · rw [List.getElem?_set_ne hij, List.getElem?_mapIdx, List.getElem?_mapIdx]
    cases rows[j]? with
    | none => rfl
    | some row' =>
      simp only [Option.map_some]
      have : (j < i + 1) ↔ (j < i) := by omega
      simp only [this]
theorem endTo_get {tag : Int} {full : Bool} {rows : List (Kd × Bool)} {i : Nat} {row : Kd × Bool} (h : rows[i]? = some row) : (endTo tag full i rows)[i]? = some row := by
  unfold endTo
  rw [List.getElem?_mapIdx, h]
  simp
theorem endTo_len {tag : Int} {full : Bool} {rows : List (Kd × Bool)} {n : Nat} : (endTo tag full n rows).length = rows.length := by unfold endTo; simp
theorem endTo_same {tag : Int} {full : Bool} {rows : List (Kd × Bool)} {i : Nat} {row : Kd × Bool} (h : rows[i]? = some row) (hs : endRow tag full i row = row) : endTo tag full (i + 1) rows = endTo tag full i rows := by
  rw [endTo_succ h, hs]
  refine List.ext_getElem? fun j => ?_
  by_cases hij : i = j
  · subst hij
    rw [List.getElem?_set_self (by rw [endTo_len]; exact (List.getElem?_eq_some_iff.mp h).1), endTo_get h]
  · rw [List.getElem?_set_ne hij]
theorem cons_cons {α : Type} {a b p : α} {l : List α} (h : p ∈ a :: l) : p ∈ a :: b :: l := by
  rcases List.mem_cons.mp h with e | h
  · rw [e]; exact List.mem_cons_self ..
  · exact List.mem_cons_of_mem _ (List.mem_cons_of_mem _ h)
def kindsV (full : Bool) (t1 t2 t3 : Tok) : Array Value := if full then #[.str (Str.ofString "unique") t1, .str (Str.ofString "shared") t2, .str (Str.ofString "reserved") t3] else #[.str (Str.ofString "unique") t1]

local macro_rules | `(tactic| walk_at "getItem ref str") => `(tactic| walk_at "nz 1")
local macro_rules | `(tactic| walk_at "subscriptTail") => `(tactic| walk_at "nz 2")
local macro_rules | `(tactic| walk_at "subscriptTail") => `(tactic| walk_at "nz 3")
local macro_rules | `(tactic| walk_at "setItem ref str") => `(tactic| walk_at "nz 4")
local macro_rules | `(tactic| walk_at "exec For Name Name cons nil") => `(tactic| (k_here; (rename Fr _ _ _ _ => lF'); (with_unfolding_all refine' For_invVF lF' ?k1 ?k2 ?_; (case k1 => exact rfl); (case k2 => exact rfl); k_whole)))

set_option maxRecDepth 100000 in
set_option maxHeartbeats 8000000 in
theorem end_spec (w : World) (news : List (Addr × Obj)) (r kl : Addr) (ds : List Addr) (rows : List (Kd × Bool)) (tag : Int) (tt t1 t2 t3 : Tok) (n : Nat) (full : Bool) (R : RecIn w news r ds rows) (h0 : 0 ≤ tag)
    (hkl : (kl, listOf (kindsV full t1 t2 t3) n) ∈ news) :
    CallAt PySem.Challenge.rw_nz0124_01.row.prog w (Nz.hd.heap_39 w.params) Nz.hd.view_39 (looseW Nz.hd.view_39 [Str.ofString "LendError"]) 143 [.ref r, .int tag tt, .ref kl] 16 128 news
      (fun v news' => v = .none ∧ RecIn w news' r ds (endTo tag full rows.length rows) ∧ ∀ q ∈ news, q.1 ∉ ds → q ∈ news') := by
  unfold CallAt
  k_fill
  intro mean mg mb dp un gd cn cs ad ccd cl outer A₀ base h₀ L m s Q E B F X N T hk hd hu hret
  obtain ⟨ro, hr, hro⟩ := R.out
  have lo := R.lo
  have hklds : kl ∉ ds := R.off_ds N hkl fun _ _ _ _ h => dict_ne_list h
  refine wpAny_call ?_
  k_dflt ktr_enter
  k_steps
  rename Fr _ _ _ _ => F1
  rename News _ _ _ news => N1
  refine dict_loop0 (knd := PySem.intKind _ _) (fun i nx => RecIn w nx r ds (endTo tag full i rows) ∧ ∀ q ∈ news, q.1 ∉ ds → q ∈ nx) rfl lo hro hr F1 N1 ⟨by rw [endTo_zero]; exact R, fun q h _ => h⟩ ?_ ?_
  · clear F1 N1
    rintro i k y v nx h tk I oI hk hv hrx hI ⟨RX, SX⟩ F2 N2
    have hil : i < ds.length := by
      have := (List.getElem?_eq_some_iff.mp hk).1
      rwa [kvs_len] at this
    have hds : ds[i]? = some ds[i] := List.getElem?_eq_getElem hil
    have hrl : i < rows.length := by rw [← R.len]; exact hil
    have hrow : rows[i]? = some (rows[i].1, rows[i].2) := List.getElem?_eq_getElem hrl
    rw [kvs_get hds] at hk
    obtain ⟨rfl, rfl⟩ : ((i : Int) = k) ∧ Value.ref ds[i] = y := by injection hk with e; injection e with e1 e2; exact ⟨e1, e2⟩
    obtain ⟨tv, rfl⟩ := PySem.Value.isInt_shape hv
    obtain ⟨o, t, ho, hdo⟩ := RX.inn _ _ _ _ hds (endTo_get hrow)
    have hval := kvs_at hds
    have hstep := endTo_succ (tag := tag) (full := full) hrow
    have hsame := endTo_same (tag := tag) (full := full) hrow
    have hdr : r ≠ ds[i] := fun e => R.rnd (e ▸ List.getElem_mem hil)
    have hdI : I ≠ ds[i] := fun e => hI _ ho e.symm
    have hkd : kl ≠ ds[i] := fun e => hklds (e ▸ List.getElem_mem hil)
    have hset : ∀ {o' : Obj} {k' : Kd} {t' : Tok} {al' : Bool}, o'.IsDictOf (PySem.strKind PySem.Challenge.rw_nz0124_01.row.prog w) (innerKv k'.t t' al') → RecIn w ((ds[i], o') :: off ds[i] nx) r ds ((endTo tag full i rows).set i (k', al')) := fun h => RX.set hds h
    have hdm : ds[i] ∈ ds := List.getElem_mem hil
    generalize rows[i].1 = kk at *
    generalize rows[i].2 = al at *
    generalize ds[i] = d at *
    have hrm : (r, ro) ∈ off d ((I, oI) :: nx) := mem_off.mpr ⟨List.mem_cons_of_mem _ hrx, hdr⟩
    have hIm : (I, oI) ∈ off d ((I, oI) :: nx) := mem_off.mpr ⟨List.mem_cons_self .., hdI⟩
    have hkm : (kl, listOf (kindsV full t1 t2 t3) n) ∈ off d ((I, oI) :: nx) := mem_off.mpr ⟨List.mem_cons_of_mem _ (SX _ hkl hklds), hkd⟩
    have N3 : News _ _ _ ((d, o) :: (kl, listOf (kindsV full t1 t2 t3) n) :: off d ((I, oI) :: nx)) := news_sub (news_front N2 (q := (d, o)) (List.mem_cons_of_mem _ ho)) fun p hp => by
      rcases List.mem_cons.mp hp with e | hp
      · rw [e]; exact List.mem_cons_self ..
      · rcases List.mem_cons.mp hp with e | hp
        · rw [e]; exact List.mem_cons_of_mem _ hkm
        · exact List.mem_cons_of_mem _ hp
    have hsub : ∀ p ∈ nx, p ∈ (d, o) :: (kl, listOf (kindsV full t1 t2 t3) n) :: off d ((I, oI) :: nx) := fun p hp => cons_cons (cover (fun q hq e => news_fun N2 (List.mem_cons_of_mem _ ho) hq e) p (List.mem_cons_of_mem _ hp))
    have hsub2 : ∀ o' : Obj, ∀ p ∈ (d, o') :: off d nx, p ∈ (d, o') :: (kl, listOf (kindsV full t1 t2 t3) n) :: off d ((I, oI) :: nx) := fun o' p hp => cons_cons <| by
      rcases List.mem_cons.mp hp with e | hp
      · rw [e]; exact List.mem_cons_self ..
      · exact List.mem_cons_of_mem _ (mem_off.mpr ⟨List.mem_cons_of_mem _ (mem_off.mp hp).1, (mem_off.mp hp).2⟩)
    try dsimp only at N3
    clear N2 hk hv
    by_cases hgt : tag < (i : Int)
    · cases al
      · have hs := hsame (by unfold endRow; rw [if_neg (by simp [Kd.isU])])
        k_steps
        all_goals exact inv_end nx (by assumption) (by assumption) ⟨hrx, fun z hz => by simp [hz], by rw [hs]; exact RX, SX⟩ hI hsub (List.mem_cons_of_mem _ (List.mem_cons_of_mem _ hIm))
      · cases kk <;> cases full <;> simp only [Kd.t, kindsV, Bool.false_eq_true, if_true, if_false] at *
        all_goals k_steps
        all_goals first
          | (rename Obj.IsDictOf _ _ (stored _ _ _) => hd9
             rename News _ _ _ _ => N9
             rw [stored_alive] at hd9
             refine inv_end _ (by assumption) N9 ?hj ?hi (hsub2 _) (List.mem_cons_of_mem _ (List.mem_cons_of_mem _ hIm))
             case hj =>
               refine ⟨List.mem_cons_of_mem _ (mem_off.mpr ⟨hrx, hdr⟩), fun z hz => by simp [hz], ?_, fun q hq hqd => List.mem_cons_of_mem _ (mem_off.mpr ⟨SX q hq hqd, fun e => hqd (e ▸ hdm)⟩)⟩
               rw [hstep, show endRow tag _ i _ = (_, false) from by unfold endRow; rw [if_pos (by simp [hgt, Kd.isU])]]
               exact hset hd9
             case hi =>
               intro q hq
               rcases List.mem_cons.mp hq with e | hq
               · rw [e]; exact fun e => hdI e.symm
               · exact hI _ (mem_off.mp hq).1)
          | exact inv_end nx (by assumption) (by assumption) ⟨hrx, fun z hz => by simp [hz], by rw [hsame (by unfold endRow; rw [if_neg (by simp [Kd.isU])])]; exact RX, SX⟩ hI hsub (List.mem_cons_of_mem _ (List.mem_cons_of_mem _ hIm))
    · have hs := hsame (by unfold endRow; rw [if_neg (fun h => hgt h.1)])
      k_steps
      all_goals exact inv_end nx (by assumption) (by assumption) ⟨hrx, fun z hz => by simp [hz], by rw [hs]; exact RX, SX⟩ hI hsub (List.mem_cons_of_mem _ (List.mem_cons_of_mem _ hIm))
  · clear F1 N1
    intro u nx h tk ⟨RX, SX⟩ F2 N2
    k_steps
    rw [kvs_len, R.len] at RX
    exact hret _ _ _ _ (by assumption) (by assumption) ⟨rfl, RX, SX⟩
theorem end_full {w : World} {news : List (Addr × Obj)} {r kl : Addr} {ds : List Addr} {rows : List (Kd × Bool)} {tag : Int} {tt t1 t2 t3 : Tok} {n : Nat} (R : RecIn w news r ds rows) (h0 : 0 ≤ tag)
    (hkl : (kl, listOf #[.str (Str.ofString "unique") t1, .str (Str.ofString "shared") t2, .str (Str.ofString "reserved") t3] n) ∈ news) :
    CallAt PySem.Challenge.rw_nz0124_01.row.prog w (Nz.hd.heap_39 w.params) Nz.hd.view_39 (looseW Nz.hd.view_39 [Str.ofString "LendError"]) 143 [.ref r, .int tag tt, .ref kl] 16 128 news
      (fun v news' => v = .none ∧ RecIn w news' r ds (endTo tag true rows.length rows) ∧ ∀ q ∈ news, q.1 ∉ ds → q ∈ news') := end_spec w news r kl ds rows tag tt t1 t2 t3 n true R h0 hkl
theorem end_uniq {w : World} {news : List (Addr × Obj)} {r kl : Addr} {ds : List Addr} {rows : List (Kd × Bool)} {tag : Int} {tt t1 : Tok} {n : Nat} (R : RecIn w news r ds rows) (h0 : 0 ≤ tag)
    (hkl : (kl, listOf #[.str (Str.ofString "unique") t1] n) ∈ news) :
    CallAt PySem.Challenge.rw_nz0124_01.row.prog w (Nz.hd.heap_39 w.params) Nz.hd.view_39 (looseW Nz.hd.view_39 [Str.ofString "LendError"]) 143 [.ref r, .int tag tt, .ref kl] 16 128 news
      (fun v news' => v = .none ∧ RecIn w news' r ds (endTo tag false rows.length rows) ∧ ∀ q ∈ news, q.1 ∉ ds → q ∈ news') := end_spec w news r kl ds rows tag tt t1 0 0 n false R h0 hkl
end
end
section
theorem freshNzDone : True := by
  w_top off
  exact trivial
open PySem PySem.W PyProof.Rows
section
def Wd.full : Wd → Bool
  | .wr | .un => true
  | _ => false
def Wd.fresh : Wd → Option Kd
  | .un => some .u
  | .sh => some .s
  | .rs => some .r
  | _ => none
/-- what _law_done makes of the record -/
def doneRows (rows : List (Kd × Bool)) (wd : Wd) (tag : Int) : List (Kd × Bool) :=
  let r1 := endTo tag wd.full rows.length rows
  let r2 := if wd.full then r1.set tag.toNat (.u, true) else r1
  match wd.fresh with
  | some k => r2 ++ [(k, true)]
  | none => r2

local macro_rules | `(tactic| walk_at "getItem ref str") => `(tactic| walk_at "nz 1")
local macro_rules | `(tactic| walk_at "subscriptTail") => `(tactic| walk_at "nz 2")
local macro_rules | `(tactic| walk_at "setItem ref str") => `(tactic| walk_at "nz 4")
local macro_rules | `(tactic| walk_at "setItem ref int") => `(tactic| (k_here; k_dflt (refine' kda_set (knd := PySem.intKind _ _) ?F ?N ?U ?d (intKind_is _ _ _ _) ?z ?_; (case F => k_asm); (case N => k_asm); (case U => k_updF); (case d => k_asm); (case z => assumption)); intro h' o' F' N' hd'; (try dsimp only at N')))
set_option maxRecDepth 100000 in
set_option maxHeartbeats 8000000 in
theorem done_spec (w : World) (news : List (Addr × Obj)) (r : Addr) (ds : List Addr) (rows : List (Kd × Bool)) (tag fresh : Int) (tt wt ft : Tok) (wd : Wd) (R : RecIn w news r ds rows) (h0 : 0 ≤ tag) (hal : aliveAt rows tag = true) (hfr : fresh = rows.length) (hsz : rows.length ≤ 64) :
    CallAt PySem.Challenge.rw_nz0124_01.row.prog w (Nz.hd.heap_39 w.params) Nz.hd.view_39 (looseW Nz.hd.view_39 [Str.ofString "LendError"]) 157 [.ref r, .str wd.t wt, .int tag tt, .int fresh ft] 32 256 news
      (fun v news' => v = .none ∧ (∃ ds', RecIn w news' r ds' (doneRows rows wd tag)) ∧ ∀ q ∈ news, q.1 ∉ ds → q.1 ≠ r → q ∈ news') := by
  unfold CallAt
  k_fill
  intro mean mg mb dp un gd cn cs ad ccd cl outer A₀ base h₀ L m s Q E B F X N T hk hd hu hret
  have hlt := alive_lt hal
  obtain ⟨d, k, al, o, t, hd1, hr1, hval, hsome, -, -, hal2, -⟩ := R.look h0 hlt
  obtain rfl : al = true := by rw [← hal2, hal]
  have hds : d ∈ ds := List.mem_of_getElem? hd1
  have hdr : ¬ r = d := fun e => R.rnd (e ▸ hds)
  have hsame : ∀ full, (endTo tag full rows.length rows)[tag.toNat]? = some (k, true) := fun full => by
    unfold endTo
    rw [List.getElem?_mapIdx, hr1]
    simp [endRow]
    omega
  have hlen : ∀ full, (endTo tag full rows.length rows).length = rows.length := fun full => endTo_len
  have hzz : (kvsOf ds).length ≤ sizeLine := by rw [kvs_len, R.len, sizeLine_eq]; omega
  cases wd
  all_goals (simp only [Wd.t] at *; refine wpAny_call ?_; k_dflt ktr_enter; k_steps)
  case rd =>
    rename News _ _ _ _ => N5
    refine CallAt.use (end_uniq (R.sub fun q hq => by k_ownIn) h0 (by k_mem)) (by k_asm) (by k_asm) (by k_asm) N5 (by k_asm) (by first | exact rfl | assumption) (by ktr_room) (by ktr_units) ?_
    rintro r9 n9 h9 tk9 F9 N9 ⟨-, R9, S9⟩
    k_steps
    rename News _ _ _ _ => N6
    exact hret _ _ _ _ (by assumption) N6 ⟨rfl, ⟨ds, R9.sub fun q hq => by k_ownIn⟩, fun q hq h1 h2 => by have := S9 q (by k_ownIn) h1; k_ownIn⟩
  case sh =>
    rename News _ _ _ _ => N5
    refine CallAt.use (end_uniq (R.sub fun q hq => by k_ownIn) h0 (by k_mem)) (by k_asm) (by k_asm) (by k_asm) N5 (by k_asm) (by first | exact rfl | assumption) (by ktr_room) (by ktr_units) ?_
    rintro r9 n9 h9 tk9 F9 N9 ⟨-, R9, S9⟩
    obtain ⟨ro9, hr9, hro9⟩ := R9.out
    replace N9 := news_front N9 hr9
    clear F N5
    k_steps
    rename News _ _ _ _ => N6
    rename Obj.IsDictOf (PySem.strKind _ _) _ _ => hq1
    rename Obj.IsDictOf (PySem.intKind _ _) _ (stored _ _ _) => hq2
    rename _ ∧ _ ∧ AllLt _ _ => hl
    refine hret _ _ _ _ (by assumption) N6 ⟨rfl, ⟨_, R9.push (k' := .s) (al' := true) (by rw [hfr, R.len]) hq2 hq1 ?_ (Nat.ne_of_lt hl.2.1) (by k_mem) (by k_mem) ?_⟩, ?_⟩
    · intro hm
      obtain ⟨ox, hx⟩ := R9.ds_there hm
      exact Nat.lt_irrefl _ (allLt_mem hl.2.2 _ (mem_off.mpr ⟨hx, (Nat.ne_of_lt hl.2.1).symm⟩))
    · intro q hq hqr
      have := mem_off.mpr ⟨hq, hqr⟩
      k_ownIn
    · intro q hq h1 h2
      have := mem_off.mpr ⟨S9 q (by k_ownIn) h1, h2⟩
      k_ownIn
  case rs =>
    rename News _ _ _ _ => N5
    refine CallAt.use (end_uniq (R.sub fun q hq => by k_ownIn) h0 (by k_mem)) (by k_asm) (by k_asm) (by k_asm) N5 (by k_asm) (by first | exact rfl | assumption) (by ktr_room) (by ktr_units) ?_
    rintro r9 n9 h9 tk9 F9 N9 ⟨-, R9, S9⟩
    obtain ⟨ro9, hr9, hro9⟩ := R9.out
    replace N9 := news_front N9 hr9
    clear F N5
    k_steps
    rename News _ _ _ _ => N6
    rename Obj.IsDictOf (PySem.strKind _ _) _ _ => hq1
    rename Obj.IsDictOf (PySem.intKind _ _) _ (stored _ _ _) => hq2
    rename _ ∧ _ ∧ AllLt _ _ => hl
    refine hret _ _ _ _ (by assumption) N6 ⟨rfl, ⟨_, R9.push (k' := .r) (al' := true) (by rw [hfr, R.len]) hq2 hq1 ?_ (Nat.ne_of_lt hl.2.1) (by k_mem) (by k_mem) ?_⟩, ?_⟩
    · intro hm
      obtain ⟨ox, hx⟩ := R9.ds_there hm
      exact Nat.lt_irrefl _ (allLt_mem hl.2.2 _ (mem_off.mpr ⟨hx, (Nat.ne_of_lt hl.2.1).symm⟩))
    · intro q hq hqr
      have := mem_off.mpr ⟨hq, hqr⟩
      k_ownIn
    · intro q hq h1 h2
      have := mem_off.mpr ⟨S9 q (by k_ownIn) h1, h2⟩
      k_ownIn
  case wr =>
    rename News _ _ _ _ => N5
    refine CallAt.use (end_full (R.sub fun q hq => by k_ownIn) h0 (by k_mem)) (by k_asm) (by k_asm) (by k_asm) N5 (by k_asm) (by first | exact rfl | assumption) (by ktr_room) (by ktr_units) ?_
    rintro r9 n9 h9 tk9 F9 N9 ⟨-, R9, S9⟩
    obtain ⟨ro9, hr9, hro9⟩ := R9.out
    have R9fun : ∀ q ∈ n9, q.1 = r → q = (r, ro9) := fun q hq e => news_fun N9 hr9 hq e
    obtain ⟨d', k', al', o9, t9, e1, e2, v9, s9, m9, q9, -, -⟩ := R9.look h0 (by rw [hlen]; exact hlt)
    obtain rfl : d = d' := by rw [hd1] at e1; exact Option.some.inj e1
    obtain rfl : al' = true := by rw [hsame] at e2; injection e2 with e; injection e with e3 e4; exact e4.symm
    have M9 : (r, ro9) ∈ off d n9 := mem_off.mpr ⟨hr9, hdr⟩
    replace N9 := news_front (news_front N9 m9) (List.mem_cons_of_mem _ M9)
    dsimp only at N9
    rw [off_cons (fun e => hdr e.symm)] at N9
    have hdr2 : ¬ d = r := fun e => hdr e.symm
    clear F N5
    k_steps
    rename News _ _ _ _ => N6
    rename Obj.IsDictOf (PySem.strKind _ _) _ (stored _ _ _) => hq3
    rw [stored_kind] at hq3
    refine hret _ _ _ _ (by assumption) N6 ⟨rfl, ⟨_, R9.set' (k' := .u) e1 hq3 (by k_mem) ?_⟩, ?_⟩
    · intro q hq hqd
      have := cover_off (o := ro9) hq hqd (fun e => R9fun q hq e)
      rcases List.mem_cons.mp this with e | h
      · rw [e]; k_mem
      · k_ownIn
    · intro q hq h1 h2
      have := mem_off.mpr ⟨mem_off.mpr ⟨S9 q (by k_ownIn) h1, fun e => h1 (by rw [e]; exact hds)⟩, h2⟩
      k_ownIn
  case un =>
    rename News _ _ _ _ => N5
    refine CallAt.use (end_full (R.sub fun q hq => by k_ownIn) h0 (by k_mem)) (by k_asm) (by k_asm) (by k_asm) N5 (by k_asm) (by first | exact rfl | assumption) (by ktr_room) (by ktr_units) ?_
    rintro r9 n9 h9 tk9 F9 N9 ⟨-, R9, S9⟩
    obtain ⟨ro9, hr9, hro9⟩ := R9.out
    have R9fun : ∀ q ∈ n9, q.1 = r → q = (r, ro9) := fun q hq e => news_fun N9 hr9 hq e
    obtain ⟨d', k', al', o9, t9, e1, e2, v9, s9, m9, q9, -, -⟩ := R9.look h0 (by rw [hlen]; exact hlt)
    obtain rfl : d = d' := by rw [hd1] at e1; exact Option.some.inj e1
    obtain rfl : al' = true := by rw [hsame] at e2; injection e2 with e; injection e with e3 e4; exact e4.symm
    have M9 : (r, ro9) ∈ off d n9 := mem_off.mpr ⟨hr9, hdr⟩
    replace N9 := news_front (news_front N9 m9) (List.mem_cons_of_mem _ M9)
    dsimp only at N9
    rw [off_cons (fun e => hdr e.symm)] at N9
    have hdr2 : ¬ d = r := fun e => hdr e.symm
    clear F N5
    k_steps
    rename News _ _ _ _ => N6
    rename Obj.IsDictOf (PySem.strKind _ _) _ (stored _ _ _) => hq3
    rw [stored_kind] at hq3
    rename Obj.IsDictOf (PySem.strKind _ _) _ (strPairs _) => hq1
    rename Obj.IsDictOf (PySem.intKind _ _) _ (stored _ _ _) => hq2
    rename _ ∧ _ ∧ _ ∧ AllLt _ _ => hl
    have R10 := R9.set (k' := .u) e1 hq3
    refine hret _ _ _ _ (by assumption) N6 ⟨rfl, ⟨_, R10.push (k' := .u) (al' := true) (by rw [hfr, R.len]) hq2 hq1 ?_ (Nat.ne_of_lt hl.2.1) (by k_mem) (by k_mem) ?_⟩, ?_⟩
    · intro hm
      obtain ⟨ox, hx⟩ := R10.ds_there hm
      rcases List.mem_cons.mp hx with e | hx
      · have e := congrArg Prod.fst e
        exact absurd (show d = _ from e.symm) (Nat.ne_of_lt hl.2.2.1)
      · exact Nat.lt_irrefl _ (allLt_mem hl.2.2.2 _ (mem_off.mpr ⟨hx, (Nat.ne_of_lt hl.2.1).symm⟩))
    · intro q hq hqr
      rcases List.mem_cons.mp hq with e | hq
      · rw [e]; k_mem
      · have := mem_off.mpr ⟨hq, hqr⟩
        k_ownIn
    · intro q hq h1 h2
      have := mem_off.mpr ⟨mem_off.mpr ⟨S9 q (by k_ownIn) h1, fun e => h1 (by rw [e]; exact hds)⟩, h2⟩
      k_ownIn
end
end
section
open PySem PySem.W PyProof.Rows PySem.Spec PySem.Calls PyProof.Rows.LCg PyProof.Rows.LCt
section
/-- what the walk has to bring where the source of a comprehension is a dict of the ledger -/
def SrcD (prog : Program) (w : World) {K : Type} [DecidableEq K] (knd : KeyKind prog w K) (A : Around) (h₀ : Heap) (L : Addr) (m : Str → Option Value) (env : Env) (ct elt : Expr) (x : Str) (scope : Scope) (cl : List (Str × Addr))
    (Q : Value → Shared → Prop) (xv : Value) (s₁ : Shared) : Prop :=
  ∃ (r : Addr) (ro : Obj) (kvs : List (K × Value)) (news : List (Addr × Obj)), xv = .ref r ∧ A.handled = none ∧ Fr h₀ L s₁.heap m ∧ News h₀ L s₁.heap news ∧ (r, ro) ∈ news ∧
      ro.IsDictOf knd kvs ∧ (r == sysModules) = false ∧ kvs.length ≤ sizeLine ∧
      ∀ s₂ : Shared, (∃ h, s₂ = { s₁ with heap := h }) → CompRestT prog w A h₀ L m env ct elt x scope cl s₂ (fun nw => (r, ro) ∈ nw) (fun i v => ∃ k y, kvs[i]? = some (k, y) ∧ knd.is k v = true) (FinE h₀ L m s₂ Q) kvs.length 0 [] news
section
variable {prog : Program} {w : World} {K : Type} [DecidableEq K] {A : Around} {E : Value → Shared → Prop} {s : Shared} {h₀ : Heap} {L : Addr} {m : Str → Option Value} {env : Env}
/-- a comprehension with one test over a dict of the ledger -/
theorem comp_dict (knd : KeyKind prog w K) {ct elt iter : Expr} {x : Str} {px : Pos} {scope : Scope} {cl : List (Str × Addr)} {pos : Pos} {Q : Value → Shared → Prop} (F₀ : Fr h₀ L s.heap m)
    (hclos : closureFor scope env = pure cl) (hcell : ∀ y ∈ scope.names, y.2 ≠ .cell) (hkind : scope.kind = .function)
    (hnames : ∀ y ∈ scope.names, y.2 = .local → scope.names.lookup y.1 = some .local) (hx : scope.names.lookup x = some .local)
    (h : wpAny (model prog w) A (eval iter env) (SrcD prog w knd A h₀ L m env ct elt x scope cl Q) E s)
    (hs : ∀ x, foldedSetIterable iter env x = pure x := by intro _; rfl) :
    wpAny (model prog w) A (eval (.ListComp elt [⟨.Name x px, iter, [ct], 0⟩] scope pos) env) Q E s := by
  rw [eval_ListComp]
  refine wpAny_comprehension_free (use := none) rfl hs hclos hkind hnames (wpAny_mono h (fun xv s₁ h₁ => ?_) fun _ _ e => e)
  obtain ⟨r, ro, kvs, news, rfl, hh, F, N, hr, hd, lo, hsz, R⟩ := h₁
  obtain ⟨ep, ha⟩ := KdkAt.of hd
  have hor := (N _ hr).1
  have hlt : r < s₁.heap.objs.size := Heap.lt_size hor
  refine wpAny_pyIter_dict lo (ha.dictAt hor) ?_
  have up : ∀ (o' : Obj) b o, s₁.heap.get? b = some o → (s₁.heap.push o').get? b = some o := fun o' b o e => Heap.get?_push_of_some _ e
  refine block_T (Walks.dictKeys (knd := knd) hh s₁.heap.objs.size r (Nat.ne_of_lt hlt) kvs ep) hsz (fun i h st => by obtain ⟨o, e, _⟩ := st.1; exact ⟨o, e⟩)
    (fun i h h' o nw st e e' _ N' hS => ⟨st.1.at fun o' q => by rw [e] at q; cases q; exact e', ha.dictAt (N' _ hS).1⟩) hcell hkind hx
    ⟨⟨_, Heap.get?_push_size _ rfl, rfl, rfl⟩, (ha.dictAt hor).at' fun o e => Heap.get?_push_of_some _ e⟩ (fun b hb => ?_)
    (F.keeps (up _)) (N.grown (up _)) (Nat.ne_of_lt F.ns.lt) (next_is_new F) (fun p hp => Nat.ne_of_lt (Heap.lt_size (N p hp).1)) hr (R _ ⟨_, rfl⟩) ?_
  · show b < (s₁.heap.push _).objs.size
    rw [Heap.size_push]
    rcases List.mem_cons.mp hb with rfl | hb
    · exact Nat.lt_succ_self _
    · rw [List.mem_singleton.mp hb]; exact Nat.lt_succ_of_lt hlt
  · intro D C h tk m' ys news' F' N' o1 hn hC₀ hD₀ hCL hDL hCD offC fin
    refine ⟨m', hn, fun h'' hs'' => fin D h'' tk (F'.change hs'' hCL hC₀) (fun p hp => ?_) o1⟩
    refine ⟨hs''.extBut _ _ ?_ (N' p hp).1, (N' p hp).2⟩
    rcases List.mem_cons.mp hp with rfl | hp
    · exact Ne.symm hCD
    · exact offC p hp

theorem compEnd_mono {I C D : Addr} {oI oC oD : Obj} {s₁ s₂ : Shared} {S : List (Addr × Obj) → Prop} {r r' : Value → List (Addr × Obj) → Prop} {y : Value} (h : CompEnd h₀ L m s₁ I oI C oC D oD S r y s₂) (hr : ∀ nw, r y nw → r' y nw) :
    CompEnd h₀ L m s₁ I oI C oC D oD S r' y s₂ := by
  obtain ⟨h', tk, nw, e, F, N, off, hS, hr'⟩ := h
  exact ⟨h', tk, nw, e, F, N, off, hS, hr _ hr'⟩
/-- a comprehension of any length by what holds of it after each turn -/
theorem comp_ind {ct elt : Expr} {x : Str} {scope : Scope} {cl : List (Str × Addr)} {S : List (Addr × Obj) → Prop} {P : Nat → Value → Prop} {Fin : List Value → List (Addr × Obj) → Prop} {n : Nat} (J : Nat → List Value → List (Addr × Obj) → Prop)
    (step : ∀ i ys news, i < n → J i ys news → ∀ v I oI C oC D m₂ h tk (E' : Value → Shared → Prop), P i v → NsObj oC m₂ → m₂ x = some v → Fr h₀ L h m → News h₀ L h ((I, oI) :: (C, oC) :: (D, lst ys) :: news) → Off3 I C D news → ((@Ne Nat I C) ∧ (@Ne Nat I D) ∧ (@Ne Nat C D)) →
      wpAny (model prog w) A (isTrue ct (compEnvC scope cl C env) (eval ct (compEnvC scope cl C env))) (fun ok s' => if ok = true then
        wpAny (model prog w) A (eval elt (compEnvC scope cl C env)) (CompEnd h₀ L m { s with heap := h, toks := tk } I oI C oC D (lst ys) S (fun y news' => J (i + 1) (ys ++ [y]) news')) E' s'
        else CompEnd h₀ L m { s with heap := h, toks := tk } I oI C oC D (lst ys) S (fun _ news' => J (i + 1) ys news') Value.none s') E' { s with heap := h, toks := tk })
    (fin : ∀ ys news, J n ys news → Fin ys news) : ∀ k i ys news, i + k = n → J i ys news → CompRestT prog w A h₀ L m env ct elt x scope cl s S P Fin k i ys news := by
  intro k
  induction k with
  | zero => intro i ys news hi hJ; exact CompRestT.zero (fin _ _ (by rw [Nat.add_zero] at hi; exact hi ▸ hJ))
  | succ k ih =>
    intro i ys news hi hJ
    refine CompRestT.succ fun v I oI C oC D m₂ h tk E' h1 h2 h3 h4 h5 h6 h7 => wpAny_mono (step i ys news (by omega) hJ v I oI C oC D m₂ h tk E' h1 h2 h3 h4 h5 h6 h7) (fun ok s' hok => ?_) fun _ _ e => e
    cases ok with
    | true =>
      simp only [if_true] at hok ⊢
      exact wpAny_mono hok (fun y s₂ hy => compEnd_mono hy fun nw q => ih (i + 1) _ _ (by omega) q) fun _ _ e => e
    | false =>
      simp only [Bool.false_eq_true, if_false] at hok ⊢
      exact compEnd_mono hok fun nw q => ih (i + 1) _ _ (by omega) q
end
end
end
section
theorem freshNzTold : True := by
  w_top off
  exact trivial
local macro_rules | `(tactic| walk_at "pad 0") => `(tactic| fail)
open PySem PySem.W PyProof.Rows PyProof.Rows.LCg PyProof.Rows.LCt
section
def itemD (p : Nat × Kd) : Dat := .tuple [.int (p.1 : Int), .str p.2.t]
def toldTo (rows : List (Kd × Bool)) (i : Nat) : List (Nat × Kd) := (rows.take i).zipIdx.filterMap fun p => if p.1.2 then some (p.2, p.1.1) else none
def told (rows : List (Kd × Bool)) : List (Nat × Kd) := toldTo rows rows.length
theorem toldTo_succ {rows : List (Kd × Bool)} {i : Nat} {k : Kd} {al : Bool} (h : rows[i]? = some (k, al)) : toldTo rows (i + 1) = toldTo rows i ++ (if al then [(i, k)] else []) := by
  unfold toldTo
  have hlt : i < rows.length := (List.getElem?_eq_some_iff.mp h).1
  rw [List.take_add_one, h, Option.toList_some, List.zipIdx_append, List.filterMap_append]
  have : (rows.take i).length = i := by rw [List.length_take]; omega
  rw [this]
  cases al <;> simp

theorem mem_rot {α : Type} {p a b c d : α} {l : List α} (h : p ∈ a :: b :: c :: d :: l) : p ∈ d :: a :: b :: c :: l := by
  simp only [List.mem_cons] at h ⊢
  rcases h with h | h | h | h | h
  · exact .inr (.inl h)
  · exact .inr (.inr (.inl h))
  · exact .inr (.inr (.inr (.inl h)))
  · exact .inl h
  · exact .inr (.inr (.inr (.inr h)))
local macro_rules | `(tactic| walk_at "getItem ref str") => `(tactic| walk_at "nz 1")
local macro_rules | `(tactic| walk_at "subscriptTail") => `(tactic| walk_at "nz 2")
local macro_rules | `(tactic| walk_at "subscriptTail") => `(tactic| walk_at "nz 3")
local macro_rules | `(tactic| walk_at "eval ListComp") => `(tactic| (k_here; k_dflt (refine comp_dict (PySem.intKind _ _) (F₀ := by k_asm) (by with_unfolding_all rfl) (by decide) (by rfl) (by decide) (by rfl) ?_)))

set_option maxRecDepth 100000 in
set_option maxHeartbeats 8000000 in
theorem told_spec (w : World) (news : List (Addr × Obj)) (r : Addr) (ds : List Addr) (rows : List (Kd × Bool)) (R : RecIn w news r ds rows) (hsz : rows.length ≤ 64) :
    CallAt PySem.Challenge.rw_nz0124_01.row.prog w (Nz.hd.heap_39 w.params) Nz.hd.view_39 (looseW Nz.hd.view_39 [Str.ofString "LendError"]) 169 [.ref r] 16 128 news
      (fun v news' => (∃ D vs n, v = .ref D ∧ (D, listOf vs.toArray n) ∈ news' ∧ DatAll news' vs ((told rows).map itemD)) ∧ ∀ q ∈ news, q ∈ news') := by
  unfold CallAt
  k_fill
  intro mean mg mb dp un gd cn cs ad ccd cl outer A₀ base h₀ L m s Q E B F X N T hk hd hu hret
  obtain ⟨ro, hr, hro⟩ := R.out
  have lo := R.lo
  have hzz : (kvsOf ds).length ≤ sizeLine := by rw [kvs_len, R.len, sizeLine_eq]; omega
  refine wpAny_call ?_
  k_dflt (refine' code_defC ?k1 ?k2 ?k3 ?k4 ?k5 ?kA ?kF ?kK ?k6 ?k7 ?k8 ?k9 ?kB ?kD ?_ ?c2 ?c3 ?c4; (case kA => exact rfl); (case kF => exact rfl); (case kK => assumption); (case k1 => k_asm); (case k2 => k_asm); (case k3 => k_asm); (case k4 => k_asm); (case k5 => k_asm); (case k6 => k_is); (case k7 => k_is); (case k8 => ktr_room); (case k9 => exact BindsTo.of_eq rfl); (case kB => exact rfl); (case kD => decide +kernel); (case c2 => exact rfl); (case c3 => exact rfl); (case c4 => exact rfl); k_whole; intro g' L' h' tk' cells' FG' F' N' Y' B' X' T' l1; k_cells Y'; (try simp only [List.cons_append, List.nil_append] at N'); (try dsimp only); (try k_fold))
  k_steps
  rename (_ = Data.cell _) => dc
  rename News _ _ _ _ => N5
  refine ⟨r, ro, kvsOf ds, _, rfl, rfl, by k_asm, N5, by k_mem, hro, lo, hzz, ?_⟩
  rintro s₂ ⟨g, rfl⟩
  refine comp_ind (n := (kvsOf ds).length) (fun i ys nw => (∀ q ∈ news, q ∈ nw) ∧ (_, _) ∈ nw ∧ DatAll nw ys ((toldTo rows i).map itemD)) ?_ ?_ _ 0 [] _ (Nat.zero_add _) ⟨fun q hq => List.mem_cons_of_mem _ hq, List.mem_cons_self .., .nil⟩
  · rintro i ys nw hi ⟨j1, j2, j3⟩ v I oI C oC D m₂ h tk E' ⟨k, y, hk, hv⟩ hC hx F2 N2 off2 ne2
    have hil : i < ds.length := by rwa [kvs_len] at hi
    have hds : ds[i]? = some ds[i] := List.getElem?_eq_getElem hil
    have hrl : i < rows.length := by rw [← R.len]; exact hil
    have hrow : rows[i]? = some (rows[i].1, rows[i].2) := List.getElem?_eq_getElem hrl
    rw [kvs_get hds] at hk
    obtain ⟨rfl, rfl⟩ : ((i : Int) = k) ∧ Value.ref ds[i] = y := by injection hk with e; injection e with e1 e2; exact ⟨e1, e2⟩
    obtain ⟨tv, rfl⟩ := PySem.Value.isInt_shape hv
    obtain ⟨o, t, ho, hdo⟩ := R.inn _ _ _ _ hds hrow
    replace ho := j1 _ ho
    have hrn := j1 _ hr
    have hval := kvs_at hds
    have hstep := toldTo_succ hrow
    generalize rows[i].1 = kk at *
    generalize rows[i].2 = al at *
    generalize ds[i] = d at *
    clear hk hv
    have hI := (N2 _ (List.mem_cons_self ..)).1
    have hC1 := (N2 _ (List.mem_cons_of_mem _ (List.mem_cons_self ..))).1
    have hD1 := (N2 _ (List.mem_cons_of_mem _ (List.mem_cons_of_mem _ (List.mem_cons_self ..)))).1
    cases al
    · k_steps
      exact CompEnd.intro (by assumption) (by assumption) nw (fun p hp => hp) off2 hrn ⟨j1, j2, by rw [hstep]; simpa using j3⟩
    · k_steps
      rename News _ _ _ _ => N6
      rename _ ∧ _ ∧ _ ∧ AllLt _ _ => l1
      refine CompEnd.intro (by assumption) N6 (_ :: nw) (fun p hp => mem_rot hp) ?_ (List.mem_cons_of_mem _ hrn) ⟨fun q hq => List.mem_cons_of_mem _ (j1 q hq), List.mem_cons_of_mem _ j2, ?_⟩
      · exact ⟨⟨Nat.ne_of_gt l1.1, Nat.ne_of_gt l1.2.1, Nat.ne_of_gt l1.2.2.1⟩, off2⟩
      · rw [hstep, List.map_append]
        exact (DatAll.mono (fun p hp => List.mem_cons_of_mem _ hp) j3).append (DatAll.one (.tuple (List.mem_cons_self ..) (.cons (.int _ _) (.cons (.str _ _) .nil))))
  · rintro ys nw ⟨j1, j2, j3⟩ D h tk F2 N2 off2
    rw [kvs_len, R.len] at j3
    k_steps
    exact hret _ _ _ _ (by assumption) (by assumption) ⟨⟨D, ys, _, rfl, List.mem_cons_self .., DatAll.mono (fun p hp => List.mem_cons_of_mem _ hp) j3⟩, fun q hq => List.mem_cons_of_mem _ (j1 q hq)⟩
end
end
section
open PySem PySem.W PyProof.Rows PySem.Calls Builtin Builtin.ObjectAttr
set_option maxRecDepth 100000
set_option maxHeartbeats 1000000
section
theorem slot_ga : Slot "Exception" "__getattribute__" "BaseException.__getattribute__" := .of (owner := "BaseException") (n := "__getattribute__") (by rw [typeLookup_type, builtinLookup_eq_fast]; kernel_rfl) (by decide +kernel) (by decide +kernel) (by decide +kernel)
    (by first | exact .inl (by decide +kernel) | exact .inr (by decide +kernel)) (by rw [isSubtype_type]; kernel_rfl)
theorem ga_kind : builtinKind "BaseException.__getattribute__" = some .slot := by decide +kernel
theorem ga_split : splitId "BaseException.__getattribute__" = some ("BaseException", "__getattribute__") := by decide +kernel
theorem ga_ne : (Value.builtin "BaseException.__getattribute__" == Value.builtin "object.__getattribute__") = false := by decide +kernel
section
variable {prog : Program} {w : World} {A : Around} {E : Value → Shared → Prop} {s : Shared} {K : Frag} {x C : Addr} {ox : Obj} {od : Option Obj} {name : Str} {expr : Bool} {Q : Value → Shared → Prop} {R : Result → Shared → Prop}

/-- an attribute of an own exception, read -/
theorem get_exc {v : Value} (X : K.In s.heap) (I : InstAt s.heap x ox C od) (hga : findIn K (.ref C) "__getattribute__" = some (some (.builtin "BaseException.__getattribute__")))
    (hgh : findIn K (.ref C) "__getattr__" = some none) (hsub : mroIn K C (.type "BaseException") = some true)
    (hf : findObj K C od name = some (.value v)) (hh : handedIn v = true) (h : Q v { s with toks := s.toks + 1 }) : wpAny (model prog w) A (getAttr (.ref x) name expr) Q E s := by
  obtain ⟨hp, g, d, t, os⟩ := s
  have L0 := I.type (M := model prog w)
  have L1 := looks_findIn (M := model prog w) X hga
  have L2 := looks_findIn (M := model prog w) X hgh
  have L3 := looks_mroIn (M := model prog w) X hsub
  have L4 := looks_find (M := model prog w) X I hf
  have S := slot_ga
  have hbind := S.bind (.ref x)
  unfold getAttr getAttrBy
  refine wpAny_bind (wpAny_mkText (wpAny_holding (wpAny_bind (L0.at (wpAny_bind (L1.at ?_))))))
  have hx2 := ga_ne
  have hx1 : (onTheHeap (Value.ref C) && Value.builtin "BaseException.__getattribute__" == Value.builtin "object.__getattribute__") = false := by rw [hx2]; rfl
  dsimp only
  rw [if_neg (by rw [hx1]; exact Bool.false_ne_true)]
  unfold getAttrByItsOwn
  refine wpAny_bind ?_
  unfold hookBefore
  rw [if_pos (by rfl)]
  refine L2.at ?_
  refine wpAny_bind (wpAny_attempt (wpAny_holding ?_))
  unfold callGetattribute
  have hx0 : (expr && onTheHeap (Value.builtin "BaseException.__getattribute__")) = false := by cases expr <;> rfl
  rw [if_neg (by rw [hx0]; exact Bool.false_ne_true)]
  unfold boundAndCalled
  rw [hbind]
  refine wpAny_bind (wpAny_pure ?_)
  dsimp only
  have sub : Looks (model prog w) hp (isInstance (.ref x) (.type "BaseException")) true := L0.andThen L3
  show wpAny _ _ (call (.builtin "BaseException.__getattribute__") [.ref x, .str name t]) _ _ _
  refine wpAny_call ?_
  refine codeAny_call_builtin S.plain PySem.F.entry_bexc_ga (@check_slot (model prog w) _ _ ⟨hp, g, d, t + 1, os⟩ "BaseException.__getattribute__" "BaseException" "__getattribute__" (.ref x) [.str name t] [] _ ga_kind ga_split sub (PySem.F.args_bexc_ga (.ref x) (.str name t)) ?_)
  unfold Builtin.«object.__getattribute__»
  refine wpAny_bind (wpAny_of_eq (a := (Value.ref x, [Value.str name t])) (by rfl) ?_)
  refine wpAny_bind (wpAny_pure (a := name) (wpAny_bind (L0.at (wpAny_bind (L4.at ?_)))))
  refine wpAny_pure ?_
  show wpAny _ _ (handedOut v) _ _ _
  rw [handedOut_of hh]; exact wpAny_pure h
end
end
end
section
open PySem PySem.W PyProof.Rows PySem.Calls Builtin Builtin.ObjectAttr
set_option maxRecDepth 100000
set_option maxHeartbeats 4000000
section
abbrev excO (C t : Addr) (dd : Option Addr) : Obj := { cls := .ref C, dict := dd, data := .fields #[.ref t, .none, .none, .none, .bool false, .none] }
abbrev tupO (vs : List Value) : Obj := { cls := .type "tuple", data := .seq vs.toArray }
section
variable {prog : Program} {w : World} {A : Around} {E : Value → Shared → Prop} {h : Heap} {g : Array GenState} {d : Drawn} {t : Nat} {os : OsState}
variable {nm q : Str} {C N : Addr} {bs bm bmB : List Value} {hdct : Bool} {sn : List Str} {sub : List Value} {ab : Bool} {col : Option Bool} {dd : Option Addr} {k0 k1 k2 k3 k5 : Option Value} {B newId initId : String}

theorem x_check_new {M : Model} (F : ExcBaseFacts B newId initId bmB) (hB : bm.contains (.type B) = true) {rest : List Value} {Q : Unit → Shared → Prop} (hC : h.get? C = some (excClassObj nm q C N bs bm hdct sn sub ab col dd k0 k1 k2 k3 k5 newId))
    (hq : Q () ⟨h, g, d, t, os⟩) : wpAny M A (checkBuiltinCall newId ⟨.ref C :: rest, []⟩) Q E ⟨h, g, d, t, os⟩ := by
  have hcont : (Value.ref C :: bm).contains (.type B) = true := by rw [List.contains_cons, hB, Bool.or_true]
  have hstar := F.noStar
  simp only [checkBuiltinCall, F.newKind, F.newSplit, F.newRow]
  repeat (first | refine wpAny_loadPart_at hC ?_ | (refine wpAny_isSubtype_exc hC ?_; rw [hcont]) | refine wpAny_staticBase_exc hC ?_ | refine wpAny_madeBy_exc hC ?_ | simp only [bne_self_eq_false, Bool.false_eq_true, if_false] | wp_step)
  exact hq

theorem x_new {R : Result → Shared → Prop} (F : ExcBaseFacts B newId initId bmB) (hB : bm.contains (.type B) = true) (hA : bm.contains (.type "AttributeError") = false) (hN : bm.contains (.type "NameError") = false) {rest : List Value}
    (hC : h.get? C = some (excClassObj nm q C N bs bm hdct sn sub ab col dd k0 k1 k2 k3 k5 newId))
    (hq : R (.ok (.ret (.ref (h.objs.size + 1)))) ⟨(h.push (tupO rest)).push (excO C h.objs.size none), g, d, t, os⟩) (hrest : rest.length ≤ sizeLine := by size_fits) :
    codeAny (model prog w) A (.builtin newId ⟨.ref C :: rest, []⟩) R ⟨h, g, d, t, os⟩ := by
  have hends := F.ends
  have hcB : (Value.ref C :: bm).contains (.type B) = true := by rw [List.contains_cons, hB, Bool.or_true]
  have hcA : (Value.ref C :: bm).contains (.type "AttributeError") = false := by rw [List.contains_cons, hA]; rfl
  have hcN : (Value.ref C :: bm).contains (.type "NameError") = false := by rw [List.contains_cons, hN]; rfl
  refine codeAny_builtinAt F.entry ?_
  unfold Builtin.«BaseException.__new__»
  refine PySem.wpAt_bind ?_
  show PySem.wpAt _ _ _ (stack >>= _) _ _ _
  refine PySem.wpAt_bind (PySem.wpAt_stack fun p below => PySem.wpAt_of_wpAny ?_)
  wp_walk
  refine PySem.wpAt_of_wpAny ?_
  rw [F.owner]
  repeat (first | with_reducible refine wpAny_madeHere_exc F.canon hC ?_ | with_reducible refine wpAny_loadPart_at hC ?_ | (with_reducible refine wpAny_isSubtype_exc hC ?_; first | rw [hcB] | rw [hcA] | rw [hcN]) | wp_step)
  show R _ _
  rw [Heap.size_push]
  exact hq

theorem x_type_call (F : ExcBaseFacts B newId initId bmB) (hB : bm.contains (.type B) = true) (hA : bm.contains (.type "AttributeError") = false) (hN : bm.contains (.type "NameError") = false) {rest : List Value} {fI : Addr} {Q : Fin → Shared → Prop}
    (hC : h.get? C = some (excClassObj nm q C N bs bm hdct sn sub ab col dd k0 k1 k2 k3 k5 newId)) (hi : Looks (model prog w) h (typeLookup (.ref C) "__init__") (some (.ref fI)))
    (hb : ∀ self, Looks (model prog w) h (bindSpecial (.ref fI) self) (.ref fI, [self]))
    (hq : wpAny (model prog w) A (call (.ref fI) (.ref (h.objs.size + 1) :: rest)) (fun r s' => r = .none ∧ Q (.done (.ret (.ref (h.objs.size + 1)))) s') E ⟨(h.push (tupO rest)).push (excO C h.objs.size none), g, d, t, os⟩)
    (hrest : rest.length ≤ sizeLine := by size_fits) :
    wpAny (model prog w) A (Builtin.«type.__call__» ⟨.ref C :: rest, []⟩) Q E ⟨h, g, d, t, os⟩ := by
  repeat (first | with_reducible refine wpAny_loadPart_at hC ?_ | with_reducible refine wpAny_madeBy_exc hC ?_ | wp_step)
  refine codeAny_call_builtin_code (Code.quiet_builtin _ F.quiet) (x_check_new F hB hC ?_)
  refine x_new F hB hA hN hC ?_ hrest
  show wpAny _ _ _ _ _ _
  have up : ∀ b o, h.get? b = some o → ((h.push (tupO rest)).push (excO C h.objs.size none)).get? b = some o := fun b o e => Heap.get?_push_of_some _ (Heap.get?_push_of_some _ e)
  have hC₁ := up _ _ hC
  have hget : ((h.push (tupO rest)).push (excO C h.objs.size none)).get? (h.objs.size + 1) = some (excO C h.objs.size none) := by heap_get
  have hcC : (Value.ref C :: bm).contains (.ref C) = true := by simp
  unfold isInstance
  repeat (first | with_reducible refine wpAny_loadPart_at hget ?_ | (with_reducible refine wpAny_isSubtype_exc hC₁ ?_; rw [hcC]) | wp_step)
  show wpAny _ _ (typeLookup (.ref C) _) _ _ _
  refine (hi.keeps up).at ?_
  refine wpAny_holding (wpAny_bind ((hb _).keeps up |>.at ?_))
  refine wpAny_bind (wpAny_mono hq (fun r s' hr => ?_) fun _ _ x => x)
  obtain ⟨rfl, hQ⟩ := hr
  wp_walk
  exact hQ

theorem x_call (F : ExcBaseFacts B newId initId bmB) (hB : bm.contains (.type B) = true) (hA : bm.contains (.type "AttributeError") = false) (hN : bm.contains (.type "NameError") = false) {rest : List Value} {fI : Addr} {Q : Value → Shared → Prop}
    (hC : h.get? C = some (excClassObj nm q C N bs bm hdct sn sub ab col dd k0 k1 k2 k3 k5 newId)) (hi : Looks (model prog w) h (typeLookup (.ref C) "__init__") (some (.ref fI)))
    (hb : ∀ self, Looks (model prog w) h (bindSpecial (.ref fI) self) (.ref fI, [self]))
    (hq : wpAny (model prog w) (A.under (.builtin "type.__call__" ⟨.ref C :: rest, []⟩)) (call (.ref fI) (.ref (h.objs.size + 1) :: rest)) (fun r s' => r = .none ∧ Q (.ref (h.objs.size + 1)) s') E ⟨(h.push (tupO rest)).push (excO C h.objs.size none), g, d, t, os⟩)
    (hrest : rest.length ≤ sizeLine := by size_fits) :
    wpAny (model prog w) A (call (.ref C) rest) Q E ⟨h, g, d, t, os⟩ := by
  have f1 := tc_lookup
  have f2 := tc_bind (.ref C)
  have hT : (⟨h, g, d, t, os⟩ : Shared).TypeIs (.ref C) "type" := ⟨_, hC, rfl⟩
  refine wpAny_call (codeAny_of_tree ?_)
  show wpAny _ _ (callAny (.ref C) _) _ _ _
  repeat (any_goals (first | assumption | with_reducible refine wpAny_loadPart_at hC ?_ | wp_step))
  refine ⟨rfl, ?_⟩
  exact codeAny_call_builtin_at (Code.quiet_builtin _ (by decide +kernel)) entry_typeCall (wpAny_check_type_call_sub hC (x_type_call (hrest := hrest) F hB hA hN hC hi hb hq))
end

section
variable {prog : Program} {w : World} {A : Around} {E : Value → Shared → Prop} {s : Shared} {h₀ : Heap} {L : Addr} {m : Str → Option Value} {news : List (Addr × Obj)} {K : Frag}
variable {nm q : Str} {C Nn fI : Addr} {bs bm : List Value} {hdct : Bool} {sn : List Str} {sub : List Value} {ab : Bool} {col : Option Bool} {dd : Option Addr} {k0 k1 k2 k3 k5 : Option Value}

/-- an own exception with an __init__ of its own is made: the call of its class comes down to the call of its __init__ -/
theorem exc_call (F : Fr h₀ L s.heap m) (X₀ : K.In h₀) (N : News h₀ L s.heap news)
    (hK : K.lookup C = some (excClassObj nm q C Nn bs bm hdct sn sub ab col dd k0 k1 k2 k3 k5 "Exception.__new__")) (hB : bm.contains (.type "Exception") = true) (hA : bm.contains (.type "AttributeError") = false) (hN : bm.contains (.type "NameError") = false)
    (hi : findIn K (.ref C) "__init__" = some (some (.ref fI))) (hf : typeIn K (.ref fI) = some (.type "function")) {rest : List Value} {Q : Value → Shared → Prop}
    (hq : ∀ e t h', Fr h₀ L h' m → News h₀ L h' ((e, excO C t none) :: (t, tupO rest) :: news) → (∀ p ∈ news, p.1 < t) → t < e →
      wpAny (model prog w) (A.under (.builtin "type.__call__" ⟨.ref C :: rest, []⟩)) (call (.ref fI) (.ref e :: rest)) (fun r s' => r = .none ∧ Q (.ref e) s') E { s with heap := h' })
    (hrest : rest.length ≤ sizeLine := by size_fits) :
    wpAny (model prog w) A (call (.ref C) rest) Q E s := by
  obtain ⟨hp, g, d, tk, os⟩ := s
  have X := X₀.keeps F.keep
  have F1 := F.push (tupO rest)
  have N1 := News.push F N (tupO rest)
  have F2 := F1.push (excO C hp.objs.size none)
  have N2 := News.push F1 N1 (excO C hp.objs.size none)
  have e1 : (hp.push (tupO rest)).objs.size = hp.objs.size + 1 := Heap.size_push ..
  rw [e1] at N2
  exact x_call (hrest := hrest) PySem.F.excBase_Exception hB hA hN (X _ _ hK) (looks_findIn X hi) (fun self => bind_fn X self hf)
    (hq _ _ _ F2 N2 (fun p hp => Heap.lt_size (N p hp).1) (Nat.lt_succ_self _))
end
end
end
section
open PySem PySem.W PyProof.Rows PySem.Calls Builtin Builtin.ObjectAttr
set_option maxRecDepth 100000
set_option maxHeartbeats 4000000
section
section
variable {prog : Program} {w : World} {A : Around} {E : Value → Shared → Prop} {s : Shared} {h₀ : Heap} {L x C dx : Addr} {m : Str → Option Value} {news : List (Addr × Obj)} {K : Frag} {name : Str} {v : Value} {R : Result → Shared → Prop}

/-- a name stored into a dict of the ledger -/
theorem store_dict {tk : Tok} {pre post : List (Addr × Obj)} {es es' : List DictEntry} {n n' : Nat} {Q : Fin → Shared → Prop} (F : Fr h₀ L s.heap m) (N : News h₀ L s.heap (pre ++ (dx, dictOf es n) :: post)) (hl : (getL name es).isSome = true)
    (h1 : ∀ p ∈ pre, p.1 ≠ dx) (h2 : ∀ p ∈ post, p.1 ≠ dx) (e : (putL name (PyData.keyHash w.params name) (.str name s.toks) v es, putN name es n) = (es', n')) (hz : es'.length ≤ 1000)
    (h : ∀ h', Fr h₀ L h' m → News h₀ L h' (pre ++ (dx, dictOf es' n') :: post) → Q (.done (.ret .none)) { s with heap := h', toks := s.toks + 1 }) :
    wpAny (model prog w) A (storeInDict dx (.str name tk) name v) Q E s := by
  obtain ⟨e1, e2⟩ := Prod.mk.inj e
  have ep : Obj.putName name (PyData.keyHash w.params name) (.str name s.toks) v (dictOf es n) = dictOf es' n' := by rw [putName_dict, e1, e2]
  obtain ⟨U1, U2⟩ := news_upd (f := Obj.putName name (PyData.keyHash w.params name) (.str name s.toks) v) F N h1 h2 ep rfl
  have D := (N (dx, dictOf es n) (by simp)).1
  have D' := (U2 (dx, dictOf es' n') (by simp)).1
  unfold storeInDict newKeyGuard
  refine wpAny_bind (wpAny_pure (wpAny_bind ?_))
  unfold nsSet
  refine wpAny_bind (wpAny_bind (wpAny_askSetting (wpAny_pure (wpAny_bind (wpAny_mkText (wpAny_bind (wpAny_loadPart D ?_)))))))
  dsimp only
  have c : (!(es.toArray.any (·.key.isStr name)) && es.toArray.any (·.refKey)) = false := by
    rw [← Array.any_toList, ← Array.any_toList]
    unfold getL at hl
    split at hl
    · rename_i en he
      rw [List.any_eq_true.mpr ⟨en, List.mem_of_find?_eq_some he, List.find?_some he⟩]; rfl
    · split at hl
      · cases hl
      · rename_i z; rw [Bool.not_eq_true] at z; rw [z, Bool.and_false]
  rw [aRefKeyMayBeTheName_at, c]
  refine wpAny_updatePart D ?_
  refine wpAny_bind (wpAny_lookBehind D' (pastItsLine_dict (by rw [List.size_toArray, sizeLine_eq]; omega)) ?_)
  exact wpAny_pure (h _ U1 U2)

theorem x_passes (self : Value) {c : List Value} {a b : Addr} (e : c = [.ref a, .ref b, .type "Exception", .type "BaseException", .type "object"]) : refuseLoop self "__setattr__" c = pure () := by
  rw [e, refuseLoop_ref, refuseLoop_ref]
  exact PySem.F.store_Exception.passes self

theorem x_osa_open {ox : Obj} {od : Option Obj} {tk : Tok} {cd : ClassData} {a b : Addr} (X : K.In s.heap) (I : InstAt s.heap x ox C od) (hc : clsIn K C = some cd) (he : cd.mro = [.ref a, .ref b, .type "Exception", .type "BaseException", .type "object"])
    (ht : takerIn K C name = some none)
    (h : ∀ b, wpAny (model prog w) A.in1 (storeInOwnDict (.ref x) (.ref C) (.str name tk) name v b)
      (fun fin s' => match fin with | .done f => R (.ok f) s' | .again c' => c'.quiet = true ∧ codeAny (model prog w) A c' R s') (fun e s' => R (.error e) s') s) :
    codeAny (model prog w) A (.call (.builtin "object.__setattr__") ⟨[.ref x, .str name tk, v], []⟩) R s := by
  have SF := PySem.F.store_object
  have sub : Looks (model prog w) s.heap (isInstance (.ref x) (.type "object")) true := I.type.andThen (looks_mroIn X (by unfold mroIn; rw [hc, Option.bind_some, if_neg (by rw [he]; simp), he]; simp))
  refine codeAny_call_builtin SF.slot.plain SF.entry (@check_slot (model prog w) _ _ s "object.__setattr__" "object" "__setattr__" (.ref x) [.str name tk, v] [] _ SF.kind SF.split sub (SF.args (.ref x) (.str name tk) v) ?_)
  obtain ⟨attr, ha, hr⟩ := Option.bind_eq_some_iff.mp ht
  have hm : Looks (model prog w) s.heap (mroOf (.ref C)) cd.mro := (looks_clsIn X hc).andThen .now
  have L3 : Looks (model prog w) s.heap (storeTaker? attr) none := by
    cases attr with
    | none => cases hr; exact .now
    | some a =>
      obtain ⟨b, hb, hbn⟩ := Option.map_eq_some_iff.mp hr
      refine (looks_takesIn X hb).andThen ?_
      cases b
      · exact .now
      · cases hbn
  rw [osa_eq, refuse_eq]
  refine wpAny_bind (wpAny_bind (I.type.here (wpAny_bind (hm.here ?_))))
  rw [x_passes _ he]
  refine wpAny_pure (wpAny_bind (I.type.here (wpAny_bind ((looks_findIn X ha).here (wpAny_bind (L3.here ?_))))))
  exact h _

/-- the first attribute of an own exception: its dict is made -/
theorem set_exc_new {cd : ClassData} {a b t : Addr} {rest : List (Addr × Obj)} {Q : Unit → Shared → Prop} (F : Fr h₀ L s.heap m) (X₀ : K.In h₀) (N : News h₀ L s.heap ((x, excO C t none) :: rest)) (hoff : ∀ p ∈ rest, p.1 ≠ x)
    (hs : findIn K (.ref C) "__setattr__" = some (some (.builtin "object.__setattr__"))) (hc : clsIn K C = some cd) (he : cd.mro = [.ref a, .ref b, .type "Exception", .type "BaseException", .type "object"]) (hcd : cd.hasDict = true)
    (ht : takerIn K C name = some none)
    (h : ∀ dx k h', Fr h₀ L h' m → News h₀ L h' ((x, excO C t (some dx)) :: (dx, dictOf [⟨PyData.keyHash w.params name, .str name k, v⟩] 1) :: rest) → (∀ p ∈ rest, p.1 < dx) → x < dx → Q () { s with heap := h', toks := s.toks + 2 }) :
    wpAny (model prog w) A (setAttr (.ref x) name v) Q E s := by
  have X := X₀.keeps F.keep
  have hx := (N _ (List.mem_cons_self ..)).1
  have I : InstAt s.heap x (excO C t none) C none := ⟨hx, rfl, rfl, trivial⟩
  refine set_plain X I hs (x_osa_open (s := { s with toks := s.toks + 1 }) X I hc he ht fun bb => ?_)
  unfold storeInOwnDict
  refine wpAny_bind (wpAny_pure ?_)
  rw [if_neg (show ¬ ((Value.ref C == Value.type "module") = true) from Bool.false_ne_true)]
  refine wpAny_bind ?_
  show wpAny _ _ (instanceDict x true) _ _ _
  unfold instanceDict
  refine wpAny_bind (wpAny_loadPart hx ?_)
  dsimp only
  refine wpAny_bind (Looks.here (s := { s with toks := s.toks + 1 }) (looks_clsIn X hc) ?_)
  rw [hcd, if_neg (by decide), if_neg (by simp [typeHasDict])]
  have hxs : x ≠ s.heap.objs.size := Nat.ne_of_lt (Heap.lt_size hx)
  have F1 := F.push emptyDict
  have N1 := News.push F N emptyDict
  have hx1 : (s.heap.push emptyDict).get? x = some (excO C t none) := (N1 _ (List.mem_cons_of_mem _ (List.mem_cons_self ..))).1
  refine wpAny_bind (wpAny_alloc (wpAny_bind (wpAny_update hx1 ?_)))
  refine wpAny_bind (wpAny_pure (wpAny_pure ?_))
  have hf : ∀ o : Obj, o = excO C t none → ({ cls := o.cls, dict := some s.heap.objs.size, data := o.data, slots := o.slots } : Obj) = excO C t (some s.heap.objs.size) := fun o e => by rw [e]
  obtain ⟨U1, U2⟩ := news_upd (pre := [(s.heap.objs.size, emptyDict)]) (post := rest) (f := fun o => { cls := o.cls, dict := some s.heap.objs.size, data := o.data, slots := o.slots }) F1 N1 (fun p hp => by rw [List.mem_singleton.mp hp]; exact hxs.symm) hoff (hf _ rfl) rfl
  refine store_dict (s := { s with heap := (s.heap.push emptyDict).update x _, toks := s.toks + 1 }) (pre := []) (es := []) (n := 0) (es' := [⟨PyData.keyHash w.params name, .str name (s.toks + 1), v⟩]) (n' := 1) U1 U2 rfl (fun p hp => (nomatch hp)) (fun p hp => ?_) rfl (by simp) fun h' F' N' => ?_
  · rcases List.mem_cons.mp hp with e | hp
    · rw [e]; exact hxs
    · exact Nat.ne_of_lt (Heap.lt_size (N _ (List.mem_cons_of_mem _ hp)).1)
  · exact h _ _ h' F' (news_sub N' fun p hp => by
      rcases List.mem_cons.mp hp with e | hp
      · rw [e]; exact List.mem_cons_of_mem _ (List.mem_cons_self ..)
      · rcases List.mem_cons.mp hp with e | hp
        · rw [e]; exact List.mem_cons_self ..
        · exact List.mem_cons_of_mem _ (List.mem_cons_of_mem _ hp)) (fun p hp => Heap.lt_size (N _ (List.mem_cons_of_mem _ hp)).1) (Heap.lt_size hx)

/-- a further attribute of an own exception -/
theorem set_exc {ox : Obj} {cd : ClassData} {a b : Addr} {es es' : List DictEntry} {n n' : Nat} {pre post : List (Addr × Obj)} {Q : Unit → Shared → Prop} (F : Fr h₀ L s.heap m) (X₀ : K.In h₀) (N : News h₀ L s.heap (pre ++ (dx, dictOf es n) :: post))
    (I : InstAt s.heap x ox C (some (dictOf es n))) (hd : ox.dict = some dx) (h1 : ∀ p ∈ pre, p.1 ≠ dx) (h2 : ∀ p ∈ post, p.1 ≠ dx)
    (hs : findIn K (.ref C) "__setattr__" = some (some (.builtin "object.__setattr__"))) (hc : clsIn K C = some cd) (he : cd.mro = [.ref a, .ref b, .type "Exception", .type "BaseException", .type "object"]) (hcd : cd.hasDict = true)
    (ht : takerIn K C name = some none) (hl : (getL name es).isSome = true) (e : (putL name (PyData.keyHash w.params name) (.str name (s.toks + 1)) v es, putN name es n) = (es', n')) (hz : es'.length ≤ 1000)
    (h : ∀ h', Fr h₀ L h' m → News h₀ L h' (pre ++ (dx, dictOf es' n') :: post) → Q () { s with heap := h', toks := s.toks + 2 }) :
    wpAny (model prog w) A (setAttr (.ref x) name v) Q E s := by
  have X := X₀.keeps F.keep
  refine set_plain X I hs (x_osa_open (s := { s with toks := s.toks + 1 }) X I hc he ht fun bb => ?_)
  unfold storeInOwnDict
  refine wpAny_bind (wpAny_pure ?_)
  rw [if_neg (show ¬ ((Value.ref C == Value.type "module") = true) from Bool.false_ne_true)]
  refine wpAny_bind ?_
  show wpAny _ _ (instanceDict x true) _ _ _
  obtain ⟨hx, hcl, hn, -⟩ := I
  obtain ⟨oc, odi, oda, osl⟩ := ox
  dsimp only at hcl hd
  subst hcl hd
  unfold instanceDict
  refine wpAny_bind (wpAny_loadPart hx ?_)
  dsimp only
  refine wpAny_bind (Looks.here (s := { s with toks := s.toks + 1 }) (looks_clsIn X hc) ?_)
  rw [hcd, if_neg (by decide)]
  refine wpAny_pure ?_
  exact store_dict (s := { s with toks := s.toks + 1 }) F N hl h1 h2 e hz fun h' F' N' => h h' F' N'
end
end
end
section
open PySem PySem.W PyProof.Rows PySem.Calls Builtin Builtin.ObjectAttr
set_option maxRecDepth 100000
set_option maxHeartbeats 4000000
section
theorem x_check_init {M : Model} {A : Around} {E : Value → Shared → Prop} {h : Heap} {g : Array GenState} {d : Drawn} {t : Nat} {os : OsState} {nm q : Str} {C N : Addr} {bs bm : List Value} {hdct : Bool} {sn : List Str} {sub : List Value} {ab : Bool} {col : Option Bool}
    {dd : Option Addr} {k0 k1 k2 k3 k5 : Option Value} {newId : String} {e : Addr} {oe : Obj} {v : Value} {Q : Unit → Shared → Prop}
    (hC : h.get? C = some (excClassObj nm q C N bs bm hdct sn sub ab col dd k0 k1 k2 k3 k5 newId)) (hB : bm.contains (.type "Exception") = true) (he : h.get? e = some oe) (hcls : oe.cls = .ref C) (hq : Q () ⟨h, g, d, t, os⟩) :
    wpAny M A (checkBuiltinCall "Exception.__init__" ⟨[.ref e, v], []⟩) Q E ⟨h, g, d, t, os⟩ := by
  have FB := PySem.F.excBase_Exception
  have hcB : (Value.ref C :: bm).contains (.type "Exception") = true := by rw [List.contains_cons, hB, Bool.or_true]
  have hshort := FB.noStar
  simp only [checkBuiltinCall, FB.initKind, FB.initSplit, FB.initRow]
  repeat (first | (with_reducible refine wpAny_loadPart_at he ?_; rw [hcls]) | with_reducible refine wpAny_loadPart_at hC ?_ | (with_reducible refine wpAny_isSubtype_exc hC ?_; rw [hcB]) | wp_step)
  exact hq
section
variable {prog : Program} {w : World} {A : Around} {E : Value → Shared → Prop} {s : Shared} {h₀ : Heap} {L x C : Addr} {m : Str → Option Value} {news : List (Addr × Obj)} {K : Frag} {v : Value}

theorem x_init_call {nm q : Str} {Nn : Addr} {bs bm : List Value} {hdct : Bool} {sn : List Str} {sub : List Value} {ab : Bool} {col : Option Bool} {cdd : Option Addr} {k0 k1 k2 k3 k5 : Option Value} {newId : String} {t : Addr} {dd : Option Addr} {rest : List (Addr × Obj)} {Q : Value → Shared → Prop} (F : Fr h₀ L s.heap m) (X₀ : K.In h₀) (N : News h₀ L s.heap ((x, excO C t dd) :: rest)) (hoff : ∀ p ∈ rest, p.1 ≠ x)
    (hK : K.lookup C = some (excClassObj nm q C Nn bs bm hdct sn sub ab col cdd k0 k1 k2 k3 k5 newId)) (hB : bm.contains (.type "Exception") = true)
    (h : ∀ t' h', Fr h₀ L h' m → News h₀ L h' ((x, excO C t' dd) :: (t', tupO [v]) :: rest) → (∀ p ∈ rest, p.1 < t') → x < t' → Q .none { s with heap := h' }) :
    wpAny (model prog w) A (call (.builtin "Exception.__init__") [.ref x, v]) Q E s := by
  have X := X₀.keeps F.keep
  have FB := PySem.F.excBase_Exception
  have hx := (N _ (List.mem_cons_self ..)).1
  have hxs : x ≠ s.heap.objs.size := Nat.ne_of_lt (Heap.lt_size hx)
  have F1 := F.push (tupO [v])
  have N1 := News.push F N (tupO [v])
  have hx1 : (s.heap.push (tupO [v])).get? x = some (excO C t dd) := (N1 _ (List.mem_cons_of_mem _ (List.mem_cons_self ..))).1
  obtain ⟨U1, U2⟩ := news_upd (pre := [(s.heap.objs.size, tupO [v])]) (post := rest) (o' := excO C s.heap.objs.size dd) (f := Obj.mapFields (·.setIfInBounds 0 (Value.ref s.heap.objs.size))) F1 N1 (fun p hp => by rw [List.mem_singleton.mp hp]; exact hxs.symm) hoff rfl rfl
  have fin := h s.heap.objs.size _ U1 (news_sub U2 fun p hp => by
      rcases List.mem_cons.mp hp with e | hp
      · rw [e]; exact List.mem_cons_of_mem _ (List.mem_cons_self ..)
      · rcases List.mem_cons.mp hp with e | hp
        · rw [e]; exact List.mem_cons_self ..
        · exact List.mem_cons_of_mem _ (List.mem_cons_of_mem _ hp)) (fun p hp => Heap.lt_size (N _ (List.mem_cons_of_mem _ hp)).1) (Heap.lt_size hx)
  obtain ⟨hp, g, d, tk, os⟩ := s
  refine wpAny_call (codeAny_call_builtin FB.init.plain FB.initEntry (x_check_init (X _ _ hK) hB hx rfl ?_))
  unfold Builtin.«BaseException.__init__»
  wp_walk
  exact fin

theorem set_exc2 {cd : ClassData} {a b t dx : Addr} {name : Str} {es es' : List DictEntry} {n n' : Nat} {post : List (Addr × Obj)} {Q : Unit → Shared → Prop} (F : Fr h₀ L s.heap m) (X₀ : K.In h₀) (N : News h₀ L s.heap ((x, excO C t (some dx)) :: (dx, dictOf es n) :: post))
    (hxd : x ≠ dx) (h2 : ∀ p ∈ post, p.1 ≠ dx)
    (hs : findIn K (.ref C) "__setattr__" = some (some (.builtin "object.__setattr__"))) (hc : clsIn K C = some cd) (he : cd.mro = [.ref a, .ref b, .type "Exception", .type "BaseException", .type "object"]) (hcd : cd.hasDict = true)
    (ht : takerIn K C name = some none) (hl : (getL name es).isSome = true) (e : (putL name (PyData.keyHash w.params name) (.str name (s.toks + 1)) v es, putN name es n) = (es', n')) (hz : es'.length ≤ 1000)
    (h : ∀ h', Fr h₀ L h' m → News h₀ L h' ((x, excO C t (some dx)) :: (dx, dictOf es' n') :: post) → Q () { s with heap := h', toks := s.toks + 2 }) :
    wpAny (model prog w) A (setAttr (.ref x) name v) Q E s :=
  set_exc (pre := [(x, excO C t (some dx))]) F X₀ N ⟨(N _ (List.mem_cons_self ..)).1, rfl, rfl, (N _ (List.mem_cons_of_mem _ (List.mem_cons_self ..))).1⟩ rfl (fun p hp => by rw [List.mem_singleton.mp hp]; exact hxd) h2 hs hc he hcd ht hl e hz h
end
end
end
section
theorem freshNzExc5 : True := by
  w_top off
  exact trivial
open PySem PySem.W PyProof.Rows
section
local macro_rules | `(tactic| walk_at "setAttr ref") => `(tactic| (k_here; k_dflt (first | (refine' set_exc_new ?k1 ?k2 ?k3 ?k4 ?k5 ?k6 ?k7 ?k8 ?k9 ?_; (case k1 => k_asm); (case k2 => k_asm); (case k3 => k_asm); (case k4 => k_all); (case k5 => k_is); (case k6 => k_is); (case k7 => rfl); (case k8 => rfl); (case k9 => k_is); intro d9 k9 h9 F9 N9 l1 l2; (try k_lt l1); (try k_lt2 l2)) | (refine' set_exc2 ?k1 ?k2 ?k3 ?kx ?k4 ?k5 ?k6 ?k7 ?k8 ?k9 ?k10 ?k11 ?k12 ?_; (case k1 => k_asm); (case k2 => k_asm); (case k3 => k_asm); (case kx => k_ne); (case k4 => k_all); (case k5 => k_is); (case k6 => k_is); (case k7 => rfl); (case k8 => rfl); (case k9 => k_is); (case k10 => k_get); (case k11 => k_put); (case k12 => exact Nat.le_of_ble_eq_true rfl); intro h9 F9 N9))))
local macro_rules | `(tactic| walk_at "call builtin:Exception.__init__") => `(tactic| (k_here; k_dflt (refine' x_init_call ?k1 ?k2 ?k3 ?k4 ?k5 ?k6 ?_; (case k1 => k_asm); (case k2 => k_asm); (case k3 => k_asm); (case k4 => k_all); (case k5 => k_is); (case k6 => decide)); intro t9 h9 F9 N9 l1 l2; (try k_lt l1); (try k_lt2 l2)))
theorem meta_Exception : PySem.typeOf (.type "Exception") = pure (.type "type") := by kernel_rfl
local macro_rules | `(tactic| walk_at "getMethod type:Exception") => `(tactic| (k_here; refine' method_type ?F ?X ?m (by decide +kernel) ?e ?h ?_; (case F => k_asm); (case X => k_asm); (case m => exact meta_Exception); (case e => k_dflt k_is); (case h => k_handed)))
set_option maxRecDepth 100000 in
set_option maxHeartbeats 8000000 in
theorem le_init_spec (w : World) (news : List (Addr × Obj)) (e t : Addr) (msg : Str) (mt : Tok) (he : (e, excO 52 t none) ∈ news) :
    CallAt PySem.Challenge.rw_nz0124_01.row.prog w (Nz.hd.heap_39 w.params) Nz.hd.view_39 (looseW Nz.hd.view_39 [Str.ofString "LendError"]) 29 [.ref e, .str msg mt] 16 128 news
      (fun v news' => v = .none ∧ ∃ t' dx h1 h2 k1 k2 st, (e, excO 52 t' (some dx)) ∈ news' ∧ (t', tupO [.str msg mt]) ∈ news' ∧ (dx, dictOf [⟨h1, .str (Str.ofString "message") k1, .str msg mt⟩, ⟨h2, .str (Str.ofString "spot") k2, .int 0 st⟩] 2) ∈ news' ∧ (∀ q ∈ news, q.1 ≠ dx) ∧ ∀ q ∈ news, q.1 ≠ e → q ∈ news') := by
  unfold CallAt
  k_fill
  intro mean mg mb dp un gd cn cs ad ccd cl outer A₀ base h₀ L m s Q E B F X N0 T hk hd hu hret
  have N := news_front N0 he
  dsimp only at N
  clear N0
  refine wpAny_call ?_
  k_dflt (refine' code_def ?k1 ?k2 ?k3 ?k4 ?k5 ?kA ?kF ?kK ?k6 ?k7 ?k8 ?k9 ?kB ?_ ?c2 ?c3 ?c4 ?c5; (case kA => exact rfl); (case kF => exact rfl); (case kK => assumption); (case k1 => k_asm); (case k2 => k_asm); (case k3 => k_asm); (case k4 => k_asm); (case k5 => k_asm); (case k6 => k_is); (case k7 => k_is); (case k8 => ktr_room); (case k9 => exact binds_K (by k_in) rfl (by k_is) rfl rfl rfl); (case c5 => decide); (case kB => exact locs rfl); (case c2 => exact rfl); (case c3 => exact rfl); (case c4 => exact rfl); k_whole; intro g' L' h' FG' F' N' B' X' T'; (try dsimp only); (try k_fold))
  k_steps
  rename News _ _ _ _ => N6
  rename _ ∧ AllLt _ _ => l1
  rename e < _ => l2
  refine hret _ _ _ _ (by assumption) N6 ⟨rfl, _, _, _, _, _, _, _, List.mem_cons_self .., List.mem_cons_of_mem _ (List.mem_cons_of_mem _ (List.mem_cons_self ..)), List.mem_cons_of_mem _ (List.mem_cons_self ..), fun q hq hqd => ?_, fun q hq hqe => by have := mem_off.mpr ⟨hq, hqe⟩; k_ownIn⟩
  by_cases hqe : q.1 = e
  · rw [hqe] at hqd
    exact absurd hqd (Nat.ne_of_lt l2)
  · exact absurd hqd (Nat.ne_of_lt (allLt_mem l1.2 q (mem_off.mpr ⟨hq, hqe⟩)))

/-- the dict of a MachineFault -/
def faultD (d : Obj) : Prop := ∃ h1 h2 h3 k1 k2 k3 msg mt st kt, d = dictOf [⟨h1, .str (Str.ofString "message") k1, .str msg mt⟩, ⟨h2, .str (Str.ofString "spot") k2, .int 0 st⟩, ⟨h3, .str (Str.ofString "kind") k3, .str (Str.ofString "aliased") kt⟩] 3
set_option maxRecDepth 100000 in
set_option maxHeartbeats 8000000 in
theorem mf_init_spec (w : World) (news : List (Addr × Obj)) (e t : Addr) (msg : Str) (mt kt : Tok) (he : (e, excO 52 t none) ∈ news) (hm : msg.length ≤ 100) :
    CallAt PySem.Challenge.rw_nz0124_01.row.prog w (Nz.hd.heap_39 w.params) Nz.hd.view_39 (looseW Nz.hd.view_39 [Str.ofString "LendError"]) 49 [.ref e, .str (Str.ofString "aliased") kt, .str msg mt] 32 256 news
      (fun v news' => v = .none ∧ ∃ t' dx d msg' mt', (e, excO 52 t' (some dx)) ∈ news' ∧ (t', tupO [.str msg' mt']) ∈ news' ∧ (dx, d) ∈ news' ∧ faultD d ∧ ∀ q ∈ news, q.1 ≠ e → q ∈ news') := by
  unfold CallAt
  k_fill
  intro mean mg mb dp un gd cn cs ad ccd cl outer A₀ base h₀ L m s Q E B F X N0 T hk hd hu hret
  have N := news_front N0 he
  dsimp only at N
  clear N0
  refine wpAny_call ?_
  k_dflt ktr_enter
  k_steps
  rename News _ _ _ _ => N5
  refine CallAt.use (le_init_spec w _ e t _ _ (List.mem_cons_self ..)) (by k_asm) (by k_asm) (by k_asm) N5 (by k_asm) (by first | exact rfl | assumption) (by ktr_room) (by ktr_units) ?_
  rintro r9 n9 h9 tk9 F9 N9 ⟨-, t', dx, h1, h2, k1, k2, st, e1, e2, e3, D9, S9⟩
  have hne : ¬ dx = e := news_ne N9 e3 e1 (fun h => by have := congrArg Obj.cls h; cases this)
  have hne2 : ¬ e = dx := fun h => hne h.symm
  have hnt : ¬ t' = e := news_ne N9 e2 e1 (fun h => by have := congrArg Obj.cls h; cases this)
  have hnt2 : ¬ t' = dx := news_ne N9 e2 e3 (fun h => by have := congrArg Obj.cls h; exact absurd (Value.type.inj this) (by decide))
  have ht3 : (t', tupO [.str (Str.ofString "aliased" ++ Str.ofString ": " ++ msg) _]) ∈ off dx (off e n9) := mem_off.mpr ⟨mem_off.mpr ⟨e2, hnt⟩, hnt2⟩
  have hdfun : ∀ q ∈ n9, q.1 = dx → q = (dx, _) := fun q hq h => news_fun N9 e3 hq h
  replace N9 := news_front (news_front N9 e1) (List.mem_cons_of_mem _ (mem_off.mpr ⟨e3, hne⟩))
  dsimp only at N9
  rw [off_cons hne2] at N9
  replace N9 := news_sub N9 (l' := (e, excO 52 t' (some dx)) :: (dx, _) :: off dx (off e n9)) (fun p hp => by
    rcases List.mem_cons.mp hp with h | hp
    · rw [h]; exact List.mem_cons_of_mem _ (List.mem_cons_self ..)
    · rcases List.mem_cons.mp hp with h | hp
      · rw [h]; exact List.mem_cons_self ..
      · exact List.mem_cons_of_mem _ (List.mem_cons_of_mem _ hp))
  clear N5 F
  k_steps
  rename News _ _ _ _ => N6
  refine hret _ _ _ _ (by assumption) N6 ⟨rfl, _, _, _, _, _, List.mem_cons_self .., List.mem_cons_of_mem _ (List.mem_cons_of_mem _ ht3), List.mem_cons_of_mem _ (List.mem_cons_self ..), ⟨_, _, _, _, _, _, _, _, _, _, rfl⟩, fun q hq hqe => ?_⟩
  have q1 := S9 q (List.mem_cons_of_mem _ (mem_off.mpr ⟨hq, hqe⟩)) hqe
  exact List.mem_cons_of_mem _ (List.mem_cons_of_mem _ (mem_off.mpr ⟨mem_off.mpr ⟨q1, hqe⟩, D9 q (List.mem_cons_of_mem _ (mem_off.mpr ⟨hq, hqe⟩))⟩))
end
end
section
open PySem PySem.W PyProof.Rows PySem.Calls PySem.Spec
set_option maxRecDepth 100000
set_option maxHeartbeats 4000000
section
/-- the exception e of the class C, its dict dx, with a traceback whose flag is fl -/
def TrX (h base : Heap) (e dx C : Addr) (fl : Value) : Prop :=
  ∃ oe vs T oT ts, h.get? e = some oe ∧ (oe.cls = .ref C ∧ oe.dict = some dx) ∧ oe.data = .fields vs ∧ vs[1]? = some (.ref T) ∧ base.get? T = none ∧ T ≠ e ∧ h.get? T = some oT ∧ oT.data = .fields ts ∧ ts[3]? = some fl
def NotX (base : Heap) (l : List Env) (e dx C : Addr) (fl : Value) (h h' : Heap) : Prop :=
  base.StaysIn h' ∧ h'.FunFrames base l ∧ TrX h' base e dx C fl ∧ ∀ b o, h.get? b = some o → (∀ vs, o.data ≠ .fields vs) → ∃ sl, h'.get? b = some { o with slots := sl }
theorem dict_mapFields (o : Obj) (f : Array Value → Array Value) : (o.mapFields f).dict = o.dict := by
  obtain ⟨c, d, dt, sl⟩ := o
  cases dt <;> rfl
section
variable {M : Model} {A : Around} {E : Value → Shared → Prop} {s : Shared} {base : Heap} {env : Env} {outer : List Env} {L e dx C : Addr}

theorem x_entry {oe : Obj} {vs : Array Value} {head : Value} {hadNext : Bool} {Q : Unit → Shared → Prop}
    (hfr : A.frames = some (env :: outer)) (hl : s.heap.FunFrames base (env :: outer)) (hf : env.frame = some L)
    (he : s.heap.get? e = some oe) (hkb : base.StaysIn s.heap) (hen : base.get? e = none) (hd : oe.data = .fields vs) (hsz : 1 < vs.size) (hcd : oe.cls = .ref C ∧ oe.dict = some dx)
    (h : ∀ h', NotX base (env :: outer) e dx C (rawInt L) s.heap h' → Q () { s with heap := h' }) :
    wpAny M A (do let a ← frameOf env; let pl ← entryPlaceOf L hadNext; let b ← EntryCells.newEntry head a .none (rawInt L) .none pl; setField (.ref e) 1 b) Q E s := by
  have hene : e ∉ (env :: outer).filterMap (·.frame) := fun hm => by
    obtain ⟨_, o, ho, hnf⟩ := hl.mem hm
    rw [he] at ho; injection ho with ho; subst ho; exact hnf vs hd
  refine wpAny_bind (wpAny_frameOf_fun hfr hl hf fun h₁ hs₁ => ?_)
  refine wpAny_bind (wpAny_entryPlaceOf fun pl hpl => ?_)
  unfold EntryCells.newEntry newFields
  refine wpAny_bind (wpAny_newObj_type ?_ (hpl.sizeOk5 _ _ _ _ _))
  have he₁ : h₁.get? e = some oe := (hs₁.2.1 e hene).trans he
  have kb₁ : base.StaysIn h₁ := fun b o hbo => (hs₁.2.1 b fun hm => by rw [(hl.mem hm).1] at hbo; cases hbo).trans (hkb b o hbo)
  have he₂ := Heap.get?_push_of_some (h := h₁) { cls := .type "traceback", dict := none, data := .fields ([head, .ref L, .none, rawInt L, .none] ++ (if pl.isEmpty then List.replicate 6 Value.none else pl)).toArray } he₁
  refine wpAny_setField he₂ hd hsz (h _ ?_)
  have hTe : h₁.objs.size ≠ e := Nat.ne_of_gt (Heap.lt_size he₁)
  have hd₃ := Obj.data_mapFields hd (·.setIfInBounds 1 (Value.ref h₁.objs.size))
  have he₃ := Heap.get?_update_self (Obj.mapFields (·.setIfInBounds 1 (Value.ref h₁.objs.size))) he₂ (Obj.isFreed_of_fields hd₃)
  have hT₃ := (Heap.get?_update_other (h₁.push { cls := .type "traceback", dict := none, data := .fields ([head, .ref L, .none, rawInt L, .none] ++ (if pl.isEmpty then List.replicate 6 Value.none else pl)).toArray })
    (Obj.mapFields (·.setIfInBounds 1 (Value.ref h₁.objs.size))) (Ne.symm hTe)).trans (Heap.get?_push_size h₁ rfl)
  have keep : ∀ b o, b ≠ e → h₁.get? b = some o →
      ((h₁.push { cls := .type "traceback", dict := none, data := .fields ([head, .ref L, .none, rawInt L, .none] ++ (if pl.isEmpty then List.replicate 6 Value.none else pl)).toArray }).update e (Obj.mapFields (·.setIfInBounds 1 (Value.ref h₁.objs.size)))).get? b = some o :=
    fun b o hbe hb => by
      rw [Heap.get?_update_other _ _ (Ne.symm hbe)]
      exact Heap.get?_push_of_some _ hb
  have noRecord : ∀ b o, s.heap.get? b = some o → (∀ vs, o.data ≠ .fields vs) → b ≠ e := fun b o hb hnf q => by
    rw [q, he] at hb; injection hb with hb; subst hb; exact hnf vs hd
  refine ⟨fun b o hbo => keep b o (fun q => by rw [q, hen] at hbo; cases hbo) (kb₁ b o hbo), hl.of_keeps fun b o hb hnf => ?_, ?_, fun b o hb hnf => ?_⟩
  · obtain ⟨sl, hs⟩ := hs₁.2.2 b o hb
    exact ⟨_, keep b _ (noRecord b o hb hnf) hs, rfl⟩
  · exact ⟨_, _, h₁.objs.size, _, _, he₃, ⟨(Obj.cls_mapFields _ _).trans hcd.1, (dict_mapFields _ _).trans hcd.2⟩, hd₃, by simp [hsz], kb₁.fresh, hTe, hT₃, rfl, by first | (simp; done) | (rcases hpl with rfl | ⟨_, _, _, _, _, _, _, rfl⟩ <;> simp)⟩
  · obtain ⟨sl, hs⟩ := hs₁.2.2 b o hb
    exact ⟨sl, keep b _ (noRecord b o hb hnf) hs⟩

theorem x_note_first {oe : Obj} {vs : Array Value} {Q : Unit → Shared → Prop}
    (hfr : A.frames = some (env :: outer)) (hl : s.heap.FunFrames base (env :: outer)) (hf : env.frame = some L)
    (he : s.heap.get? e = some oe) (hkb : base.StaysIn s.heap) (hen : base.get? e = none) (hd : oe.data = .fields vs) (h1 : vs[1]? = some .none) (hcd : oe.cls = .ref C ∧ oe.dict = some dx)
    (h : ∀ h', NotX base (env :: outer) e dx C (rawInt L) s.heap h' → Q () { s with heap := h' }) : wpAny M A (noteFrame (.ref e) env) Q E s := by
  unfold noteFrame
  simp only [hf]
  refine wpAny_bind (wpAny_field he hd h1 ?_)
  rw [if_neg (by decide)]
  exact x_entry hfr hl hf he hkb hen hd (Array.getElem?_eq_some_iff.mp h1).1 hcd h

theorem x_note_next {Q : Unit → Shared → Prop}
    (hfr : A.frames = some (env :: outer)) (hl : s.heap.FunFrames base (env :: outer)) (hf : env.frame = some L) (ht : TrX s.heap base e dx C .none) (hkb : base.StaysIn s.heap) (hen : base.get? e = none)
    (h : ∀ h', NotX base (env :: outer) e dx C (rawInt L) s.heap h' → Q () { s with heap := h' }) : wpAny M A (noteFrame (.ref e) env) Q E s := by
  obtain ⟨oe, vs, T, oT, ts, he, hcd, hd, h1, hnT, hTe, hT, hdT, h3⟩ := ht
  unfold noteFrame
  simp only [hf]
  refine wpAny_bind (wpAny_field he hd h1 ?_)
  rw [if_pos (show (Value.ref T != Value.none) = true from by simp)]
  refine wpAny_bind (wpAny_field hT hdT h3 ?_)
  rw [if_neg (show ¬ ((Value.none == rawInt L) = true) from by simp [rawInt])]
  refine wpAny_bind (wpAny_setField hT hdT (Array.getElem?_eq_some_iff.mp h3).1 ?_)
  have other : ∀ b, b ≠ T → (s.heap.update T (Obj.mapFields (·.setIfInBounds 3 Value.none))).get? b = s.heap.get? b := fun b hb => Heap.get?_update_other _ _ (Ne.symm hb)
  have noRecord : ∀ b o, s.heap.get? b = some o → (∀ vs, o.data ≠ .fields vs) → b ≠ T := fun b o hb hnf q => by
    rw [q, hT] at hb; injection hb with hb; subst hb; exact hnf ts hdT
  refine x_entry hfr (hl.of_keeps fun b o hb hnf => ⟨o, (other b (noRecord b o hb hnf)).trans hb, rfl⟩) hf ((other e (Ne.symm hTe)).trans he)
    (fun b o hbo => (other b fun q => by rw [q, hnT] at hbo; cases hbo).trans (hkb b o hbo)) hen hd (Array.getElem?_eq_some_iff.mp h1).1 hcd
    fun h' ⟨x1, x2, x3, x4⟩ => h h' ⟨x1, x2, x3, fun b o hb hnf => x4 b o ((other b (noRecord b o hb hnf)).trans hb) hnf⟩

theorem x_setFlight {l : List Env} {fl : Value} {Q : Unit → Shared → Prop} (hkb : base.StaysIn s.heap) (hl : s.heap.FunFrames base l) (ht : TrX s.heap base e dx C fl)
    (h : ∀ h', NotX base l e dx C .none s.heap h' → Q () { s with heap := h' }) : wpAny M A (setFlight (.ref e) none) Q E s := by
  obtain ⟨oe, vs, T, oT, ts, he, hcd, hd, h1, hnT, hTe, hT, hdT, h3⟩ := ht
  have hsz3 : 3 < ts.size := (Array.getElem?_eq_some_iff.mp h3).1
  have other : ∀ b, b ≠ T → (s.heap.update T (Obj.mapFields (·.setIfInBounds 3 ((none : Option Addr).elim Value.none fun f => rawInt f)))).get? b = s.heap.get? b :=
    fun b hb => Heap.get?_update_other _ _ (Ne.symm hb)
  have noRecord : ∀ b o, s.heap.get? b = some o → (∀ vs, o.data ≠ .fields vs) → b ≠ T := fun b o hb hnf q => by
    rw [q, hT] at hb; injection hb with hb; subst hb; exact hnf ts hdT
  unfold setFlight
  refine wpAny_bind (wpAny_field he hd h1 ?_)
  rw [if_pos (show (Value.ref T != Value.none) = true from by simp)]
  refine wpAny_setField hT hdT hsz3 (h _ ⟨fun b o hbo => (other b fun q => by rw [q, hnT] at hbo; cases hbo).trans (hkb b o hbo),
    hl.of_keeps fun b o hb hnf => ⟨o, (other b (noRecord b o hb hnf)).trans hb, rfl⟩, ?_, fun b o hb hnf => ⟨o.slots, (other b (noRecord b o hb hnf)).trans hb⟩⟩)
  exact ⟨oe, vs, T, _, _, (other e (Ne.symm hTe)).trans he, hcd, hd, h1, hnT, hTe, Heap.get?_update_self _ hT (Obj.isFreed_of_fields (Obj.data_mapFields hdT _)), Obj.data_mapFields hdT _, by simp [hsz3]⟩

/-- in flight over the frames l -/
def FlyX (B : Heap) (l : List Env) (e dx C : Addr) (h : Heap) : Prop := B.StaysIn h ∧ B.get? e = none ∧ h.FunFrames B l ∧ TrX h B e dx C .none
theorem up_noted {l : List Env} {fl : Value} {h h' : Heap} (x : NotX base l e dx C fl h h') : h.UpToSlots h' := x.2.2.2

theorem funFrames_tail {h B : Heap} {env : Env} {l : List Env} (x : h.FunFrames B (env :: l)) : h.FunFrames B l := by
  obtain ⟨_, _, k⟩ := x
  exact k

theorem x_leaves_first {oe : Obj} {vs : Array Value} {Q : Unit → Shared → Prop}
    (hfr : A.frames = some (env :: outer)) (hl : s.heap.FunFrames base (env :: outer)) (hf : env.frame = some L)
    (he : s.heap.get? e = some oe) (hkb : base.StaysIn s.heap) (hen : base.get? e = none) (hd : oe.data = .fields vs) (h1 : vs[1]? = some .none) (hcd : oe.cls = .ref C ∧ oe.dict = some dx)
    (h : ∀ h', FlyX base outer e dx C h' → s.heap.UpToSlots h' → Q () { s with heap := h' }) : wpAny M A (leaving env (.ref e)) Q E s := by
  unfold leaving
  refine wpAny_bind (x_note_first hfr hl hf he hkb hen hd h1 hcd fun h₁ ⟨a1, a2, a3, a4⟩ => ?_)
  exact x_setFlight (s := { s with heap := h₁ }) a1 a2 a3 fun h₂ ⟨b1, b2, b3, b4⟩ => h h₂ ⟨b1, hen, funFrames_tail b2, b3⟩ (Heap.UpToSlots.trans a4 b4)
theorem x_leaves_next {Q : Unit → Shared → Prop}
    (hfr : A.frames = some (env :: outer)) (hf : env.frame = some L) (x : FlyX base (env :: outer) e dx C s.heap)
    (h : ∀ h', FlyX base outer e dx C h' → s.heap.UpToSlots h' → Q () { s with heap := h' }) : wpAny M A (leaving env (.ref e)) Q E s := by
  obtain ⟨f1, f2, f3, f4⟩ := x
  unfold leaving
  refine wpAny_bind (x_note_next hfr f3 hf f4 f1 f2 fun h₁ ⟨a1, a2, a3, a4⟩ => ?_)
  exact x_setFlight (s := { s with heap := h₁ }) a1 a2 a3 fun h₂ ⟨b1, b2, b3, b4⟩ => h h₂ ⟨b1, f2, funFrames_tail b2, b3⟩ (Heap.UpToSlots.trans a4 b4)
end
end
end
section
open PySem PySem.W PyProof.Rows PySem.Calls PySem.Spec
set_option maxRecDepth 100000
set_option maxHeartbeats 4000000
section
def RaisedX (base G : Heap) (l : List Env) (e dx C : Addr) (news : List (Addr × Obj)) (h : Heap) : Prop :=
  ∃ B, base.StaysIn B ∧ (∀ b o, G.get? b = some o → b ∉ l.filterMap (·.frame) → B.get? b = some o) ∧ (∀ q ∈ news, B.get? q.1 = some q.2 ∧ G.get? q.1 = none ∧ base.get? q.1 = none) ∧ FlyX B l e dx C h
theorem RaisedX.sub {base G : Heap} {l : List Env} {e dx C : Addr} {news news' : List (Addr × Obj)} {h : Heap} (R : RaisedX base G l e dx C news h) (hs : ∀ q ∈ news', q ∈ news) : RaisedX base G l e dx C news' h := by
  obtain ⟨B, h1, h2, h3, h4⟩ := R
  exact ⟨B, h1, h2, fun q hq => h3 q (hs q hq), h4⟩
section
variable {M : Model} {A : Around} {E : Value → Shared → Prop} {s' : Shared} {base g g₂ h : Heap} {outer : List Env} {L a e dx C t : Addr} {m : Str → Option Value} {name : Str} {scope : Scope} {cd : Value} {Q : Unit → Shared → Prop} {news : List (Addr × Obj)}

theorem leave_raiseX (K : Below A base outer g) (F : Fr g L s'.heap m) (N : News g L s'.heap ((e, excO C t (some dx)) :: news)) (hoff : ∀ q ∈ news, q.1 ≠ e)
    (hQ : ∀ h', RaisedX base g outer e dx C news h' → g.UpToSlots h' → Q () { s' with heap := h' }) (hk : scope.kind = .function := by rfl) :
    wpAny M (A.deeper (envOf name scope L a cd)) (leaving (envOf name scope L a cd) (.ref e)) Q E s' := by
  have K' := K.push (name := name) (a := a) (cd := cd) F hk
  have he := N _ (List.mem_cons_self ..)
  have hin : ∀ env ∈ (envOf name scope L a cd :: outer), ∀ b, env.frame = some b → b ∈ e :: (envOf name scope L a cd :: outer).filterMap (·.frame) := fun env he b hb => List.mem_cons_of_mem _ (List.mem_filterMap.mpr ⟨env, he, hb⟩)
  have nfr : ∀ b, g.get? b = none → b ≠ L → b ∉ (envOf name scope L a cd :: outer).filterMap (·.frame) := fun b hb hbL hm => by
    rcases kts_mem hm with z | z
    · exact hbL z
    · obtain ⟨_, o, ho, _⟩ := K.frames.mem z
      rw [hb] at ho; cases ho
  have st : base.StaysIn (hideAll s'.heap (e :: (envOf name scope L a cd :: outer).filterMap (·.frame))) := fun b o q => hideAll_get _ (K'.stays b o q) fun hm => by
    rcases List.mem_cons.mp hm with z | hm
    · rw [z, fresh_of_stays K.stays he.2.2] at q; cases q
    · rw [(K'.frames.mem hm).1] at q; cases q
  have sg : ∀ b o, g.get? b = some o → b ∉ outer.filterMap (·.frame) → (hideAll s'.heap (e :: (envOf name scope L a cd :: outer).filterMap (·.frame))).get? b = some o := fun b o q nm => hideAll_get _ (F.keep b o q) fun hm => by
    rcases List.mem_cons.mp hm with z | hm
    · rw [z, he.2.2] at q; cases q
    · rcases kts_mem hm with z | z
      · rw [z, kts_self F] at q
        cases q
      · exact nm z
  have hl : ∀ q ∈ news, (hideAll s'.heap (e :: (envOf name scope L a cd :: outer).filterMap (·.frame))).get? q.1 = some q.2 ∧ g.get? q.1 = none ∧ base.get? q.1 = none := fun q hq => by
    have hn := N q (List.mem_cons_of_mem _ hq)
    refine ⟨hideAll_get _ hn.1 fun hm => ?_, hn.2.2, fresh_of_stays K.stays hn.2.2⟩
    rcases List.mem_cons.mp hm with z | hm
    · exact hoff q hq z
    · exact nfr _ hn.2.2 hn.2.1 hm
  refine x_leaves_first K'.stack ?_ rfl he.1 ?_ ?_ rfl rfl ⟨rfl, rfl⟩ fun h' x1 x2 => hQ h' ⟨_, st, sg, hl, x1⟩ ((Heap.UpToSlots.of_keeps F.keep).trans x2)
  · exact funFrames_hide K'.frames hin
  · exact fun b o q => of_hideAll _ q
  · exact hideAll_none _ (List.mem_cons_self ..)

theorem leave_onX (K : Below A base outer g) (F : Fr g L g₂ m) (R : RaisedX base g₂ (envOf name scope L a cd :: outer) e dx C news s'.heap) (hsm : g₂.UpToSlots s'.heap)
    (hQ : ∀ h', RaisedX base g outer e dx C news h' → g.UpToSlots h' → Q () { s' with heap := h' }) :
    wpAny M (A.deeper (envOf name scope L a cd)) (leaving (envOf name scope L a cd) (.ref e)) Q E s' := by
  obtain ⟨B, hB, hBG, hl, hfl⟩ := R
  exact x_leaves_next (Around.frames_deeper K.stack) rfl hfl fun h' x1 x2 =>
    hQ h' ⟨B, hB, fun b o q nm => hBG b o (F.keep b o q) (fun hm => by
      rcases kts_mem hm with z | z
      · rw [z, kts_self F] at q
        cases q
      · exact nm z), fun q hq => ⟨(hl q hq).1, kts_none F.keep (hl q hq).2.1, (hl q hq).2.2⟩, x1⟩ ((Heap.UpToSlots.of_keeps F.keep).trans (hsm.trans x2))
end

section
variable {M : Model} {A : Around} {E : Value → Shared → Prop} {s : Shared} {env : Env}
/-- what a raised call has made -/
def XRaise (h₀ : Heap) (C : Addr) (E : Value → Shared → Prop) (v : Value) (s₁ : Shared) : Prop := ∃ e t dd, v = .ref e ∧ (∀ b o, h₀.get? b = some o → s₁.heap.get? b = some o) ∧ s₁.heap.get? e = some (excO C t dd) ∧ E (.ref e) s₁

theorem x_raiseStmt {nm q : Str} {C N : Addr} {bs bm : List Value} {hdct : Bool} {sn : List Str} {sub : List Value} {ab : Bool} {col : Option Bool} {cdd : Option Addr} {k0 k1 k2 k3 k5 : Option Value} {newId : String} {x : Sem Value} {Q : Flow → Shared → Prop}
    (hbase : bm.contains (.type "BaseException") = true) (hh : A.handled = none)
    (h : wpAny M A x (fun v s₁ => ∃ e t dd, v = .ref e ∧ s₁.heap.get? C = some (excClassObj nm q C N bs bm hdct sn sub ab col cdd k0 k1 k2 k3 k5 newId) ∧ s₁.heap.get? e = some (excO C t dd) ∧ E (.ref e) s₁) E s) :
    wpAny M A (raiseStmt env (some x) none) Q E s := by
  have hcB : (Value.ref C :: bm).contains (.type "BaseException") = true := by rw [List.contains_cons, hbase, Bool.or_true]
  unfold raiseStmt
  refine wpAny_bind (wpAny_mono h (fun v s₁ h₁ => ?_) fun _ _ x => x)
  obtain ⟨e, t, dd, rfl, hC, he, hE⟩ := h₁
  obtain ⟨hp, g, d, tk, os⟩ := s₁
  repeat (first | with_reducible refine wpAny_loadPart_at he ?_ | with_reducible refine wpAny_loadPart_at hC ?_ | (with_reducible refine wpAny_isSubtype_exc hC ?_; rw [hcB]) | wp_step)
  exact wpAny_raiseNew_none hh hE
end

section
variable {prog : Program} {w : World} {A : Around} {E : Value → Shared → Prop} {s : Shared} {env : Env} {K : Frag} {h₀ : Heap}
theorem x_Raise {nm q : Str} {C N : Addr} {bs bm : List Value} {hdct : Bool} {sn : List Str} {sub : List Value} {ab : Bool} {col : Option Bool} {cdd : Option Addr} {k0 k1 k2 k3 k5 : Option Value} {newId : String} {f : Expr} {args : List Expr} {ks : List Keyword} {cpos pos : Pos} {Q : Flow → Shared → Prop}
    (X₀ : K.In h₀) (hK : K.lookup C = some (excClassObj nm q C N bs bm hdct sn sub ab col cdd k0 k1 k2 k3 k5 newId)) (hbase : bm.contains (.type "BaseException") = true) (hh : A.handled = none)
    (h : wpAny (model prog w) A (eval (.Call f args ks cpos) env) (XRaise h₀ C E) E s) :
    wpAny (model prog w) A (exec (.Raise (some (.Call f args ks cpos)) none pos) env) Q E s := by
  rw [arm_exec_Raise]
  refine wpAny_bind (wpAny_standAt (x_raiseStmt (C := C) (nm := nm) (q := q) (N := N) (bs := bs) (bm := bm) (hdct := hdct) (sn := sn) (sub := sub) (ab := ab) (col := col) (cdd := cdd) (k0 := k0) (k1 := k1) (k2 := k2) (k3 := k3) (k5 := k5) (newId := newId) hbase hh (wpAny_bind (wpAny_mono h (fun v s₁ h₁ => wpAny_bind (wpAny_standAt (wpAny_pure ?_))) fun _ _ x => x))))
  obtain ⟨e, t, dd, rfl, hk, he, hE⟩ := h₁
  exact ⟨e, t, dd, rfl, hk _ _ (X₀ _ _ hK), he, hE⟩
end
end
end
section
open PySem PySem.W PyProof.Rows PySem.Calls PySem.Spec
set_option maxRecDepth 100000
set_option maxHeartbeats 4000000
section
section
variable {prog : Program} {w : World} {A₀ : Around} {E : Value → Shared → Prop} {s' : Shared} {base g g₀ G : Heap} {outer : List Env} {L a e dx C : Addr} {m : Str → Option Value} {name : Str} {scope : Scope} {cd : Value}
  {n : Str} {b₀ : Stmt} {suite : List Stmt} {pos np : Pos} {rest : List ExceptHandler} {Q : Flow → Shared → Prop} {news : List (Addr × Obj)} {KF : Frag}
  {p : Program} {loose : List Str} {mean : ExcName → Option Value} {mg mb : Str → Option Value} {x : Str}
theorem caught_X (R : RaisedX base G (envOf name scope L a cd :: outer) e dx C news s'.heap) (F : Fr g L G m) (K : Below A₀ base outer g) (hsm : G.UpToSlots s'.heap) (XB : KF.In base) (TB : Top p loose mean mg mb base)
    (T0 : KtsTurn (outer.filterMap (·.frame)) g₀ g)
    (ex : nsIn KF mainGlobals x = some (some (.ref C))) (q : ktsIn KF C "BaseException" = true)
    (k : ∀ h' g' oe vs tk, KtsTurn (outer.filterMap (·.frame)) g₀ g' → Fr g' L h' (fun y => if y = n then some (.ref e) else m y) → oe.cls = .ref C → oe.dict = some dx → oe.data = .fields vs → News g' L h' ((e, oe) :: news) → (∀ q ∈ news, q.1 = e → q.2 = oe) → Below A₀ base outer g' → KF.In g' → Top p loose mean mg mb g' →
      wpAny (model prog w) ((A₀.deeper (envOf name scope L a cd)).mark (some (.ref e))) (execs (b₀ :: suite) (envOf name scope L a cd))
        (fun f s₄ => wpAny (model prog w) (A₀.deeper (envOf name scope L a cd)) (do bindName (envOf name scope L a cd) n .none; unbindBehindTheSuite (envOf name scope L a cd) n pos) (fun _ s₅ => Q f s₅) E s₄)
        (AsSuiteRaised (model prog w) ((A₀.deeper (envOf name scope L a cd)).mark (some (.ref e))) (envOf name scope L a cd) n pos (notedBy (model prog w) ((A₀.deeper (envOf name scope L a cd)).mark (some (.ref e))) (envOf name scope L a cd) (cameBackBy (model prog w) (A₀.deeper (envOf name scope L a cd)) (envOf name scope L a cd) E)))
        { s' with heap := h', toks := tk })
    (hk : scope.kind = .function := by rfl) (hlo : (envOf name scope L a cd).kindOf n = some .local := by rfl) (hx : (envOf name scope L a cd).kindOf x = some .globalImplicit := by rfl) (hd : (x == ("__debug__" : Str)) = false := by decide) :
    wpAny (model prog w) (A₀.deeper (envOf name scope L a cd)) (noteFrame (.ref e) (envOf name scope L a cd))
      (fun _ s₂ => wpAny (model prog w) (A₀.deeper (envOf name scope L a cd)) (setFlight (.ref e) none) (fun _ s₃ =>
        wpAny (model prog w) (A₀.deeper (envOf name scope L a cd)) (handleBy (.ref e) (envOf name scope L a cd) (.ExceptHandler (some (.Name x np)) (some n) (b₀ :: suite) pos :: rest)) Q E s₃) E s₂) E s' := by
  obtain ⟨B, hB, hBG, hl, f1, f2, f3, f4⟩ := R
  have hL : B.get? L = none := by
    obtain ⟨_, ⟨L', _, hf, hn', _⟩, _⟩ := f3
    obtain rfl : L = L' := Option.some.inj hf
    exact hn'
  refine x_note_next (Around.frames_deeper K.stack) f3 rfl f4 f1 f2 fun h₄ ⟨a1, a2, a3, a4⟩ => ?_
  refine x_setFlight (s := { s' with heap := h₄ }) a1 a2 a3 fun h₅ ⟨b1, b2, b3, b4⟩ => ?_
  have hsm₅ : s'.heap.UpToSlots h₅ := Heap.UpToSlots.trans a4 b4
  obtain ⟨g₅, T₅, F₅, K₅⟩ := kts_ground K F hBG b1 (hsm.trans hsm₅)
  have X₅ : KF.In g₅ := XB.keeps K₅.stays
  have P₅ : TopRead p loose mg mb g₅ := topRead_of (TB.keeps K₅.stays)
  have b3' := b3
  obtain ⟨ob, vs, T, oT, ts, hob, ⟨hobc, hobd⟩, -⟩ := b3'
  obtain ⟨nm, q', N, bs, bm, hdct, sn, sub, ab, col, dd, k0, k1, k2, k3, k5, newId, hC, hbase, hbT⟩ := kts_cls X₅ q
  have hC₅ := F₅.keep _ _ hC
  refine wpAny_handleBy_cons (codeAny_handlers_test (name_K F₅ X₅ P₅ ex ?_ hk hx hd)) (by intro q; cases q)
  refine wpAny_excMatches_sub_self hC₅ hob hobc hbase (codeAny_handlers_suite_as ?_)
  refine x_setFlight (s := { s' with heap := h₅ }) b1 b2 b3 fun h₆ ⟨c1, c2, c3, c4⟩ => ?_
  obtain ⟨g₆, T₆, F₆, K₆⟩ := kts_ground K F hBG c1 ((hsm.trans hsm₅).trans c4)
  obtain ⟨oe, vs, T, oT, ts, hoe, ⟨hoec, hoedd⟩, hoed, -⟩ := c3
  have ne₆ : g₆.get? e = none := T₆.none_ _ (kts_fresh F hBG f2 fun o ho m => by
    obtain ⟨_, o', ho', hd⟩ := K.frames.mem m
    rw [ho] at ho'
    cases ho'
    obtain ⟨sl, hs⟩ := ((hsm.trans hsm₅).trans c4) _ _ (F.keep _ _ ho) hd
    rw [hoe] at hs
    cases hs
    exact hd _ hoed)
  have N₆ := News.more F₆ News.nil hoe (fun es n q => by rw [hoed] at q; cases q) ne₆
  have Nl : News g₆ L h₆ news := fun q hq => ⟨c1 _ _ (hl q hq).1, (fun z => by have := (hl q hq).1; rw [z, hL] at this; cases this), T₆.none_ _ (kts_none F.keep (hl q hq).2.1)⟩
  have X₆ : KF.In g₆ := XB.keeps K₆.stays
  have P₆ : Top p loose mean mg mb g₆ := TB.keeps K₆.stays
  have Na : News g₆ L h₆ ((e, oe) :: news) := fun q hq => by
    rcases List.mem_cons.mp hq with rfl | hq
    · exact N₆ _ (List.mem_cons_self ..)
    · exact Nl q hq
  refine stN F₆ Na (fun h₇ F₇ N₇ => ?_) hk hlo
  exact k h₇ g₆ oe _ _ (T0.trans T₆) F₇ hoec hoedd hoed N₇ (fun q hq e' => by
    have := (Na _ (List.mem_cons_of_mem _ hq)).1
    rw [e', hoe] at this
    exact (Option.some.inj this).symm) K₆ X₆ P₆
end
end
end
section
open PySem PySem.W PyProof.Rows PySem.Spec
section
/-- a call of the text's def `f` that may raise a MachineFault 'aliased' -/
def CallX (prog : Program) (w : World) (K : Frag) (p : Program) (loose : List Str) (f : Addr) (args : List Value) (dN uN : Nat) (news : List (Addr × Obj))
    (Ret : Value → List (Addr × Obj) → Prop) (Err : Prop) : Prop :=
  ∀ (mean : ExcName → Option Value) (mg mb : Str → Option Value) (dp un : Nat) (gd : Option (List Code)) (cn : Str) (cs : Scope) (a : Addr) (ccd : Value) (cl : List (Str × Addr)) (outer : List Env)
    (A₀ : Around) (base h₀ : Heap) (L : Addr) (m : Str → Option Value) (s : Shared) (Q E : Value → Shared → Prop),
    Below A₀ base outer h₀ → Fr h₀ L s.heap m → K.In h₀ → News h₀ L s.heap news → Top p loose mean mg mb h₀ → cs.kind = .function → dp + dN < recursionLimit → un + uN < cLine →
    (∀ r news' h' tk', Fr h₀ L h' m → News h₀ L h' news' → Ret r news' → Q r { s with heap := h', toks := tk' }) →
    (Err → ∀ e dx d g news' h' tk', Fr h₀ L g m → RaisedX base g (envX cn cs L a ccd cl :: outer) e dx 52 news' h' → g.UpToSlots h' → (∀ q ∈ news, q ∈ news') → (dx, d) ∈ news' → faultD d → E (.ref e) { s with heap := h', toks := tk' }) →
    wpAny (model prog w) (ktrTop dp un gd cn cs L a ccd cl outer) (call (.ref f) args) Q E s
theorem CallX.use {prog : Program} {w : World} {K : Frag} {p : Program} {loose : List Str} {f : Addr} {args : List Value} {dN uN : Nat} {news : List (Addr × Obj)} {Ret : Value → List (Addr × Obj) → Prop} {Err : Prop}
    {mean : ExcName → Option Value} {mg mb : Str → Option Value} {dp un : Nat} {gd : Option (List Code)} {cn : Str} {cs : Scope} {a : Addr} {ccd : Value} {cl : List (Str × Addr)} {outer : List Env}
    {A₀ : Around} {base h₀ : Heap} {L : Addr} {m : Str → Option Value} {s : Shared} {Q E : Value → Shared → Prop} (C : CallX prog w K p loose f args dN uN news Ret Err)
    (B : Below A₀ base outer h₀) (F : Fr h₀ L s.heap m) (X : K.In h₀) (N : News h₀ L s.heap news) (T : Top p loose mean mg mb h₀) (hk : cs.kind = .function) (hd : dp + dN < recursionLimit) (hu : un + uN < cLine)
    (ret : ∀ r news' h' tk', Fr h₀ L h' m → News h₀ L h' news' → Ret r news' → Q r { s with heap := h', toks := tk' })
    (err : Err → ∀ e dx d g news' h' tk', Fr h₀ L g m → RaisedX base g (envX cn cs L a ccd cl :: outer) e dx 52 news' h' → g.UpToSlots h' → (∀ q ∈ news, q ∈ news') → (dx, d) ∈ news' → faultD d → E (.ref e) { s with heap := h', toks := tk' }) :
    wpAny (model prog w) (ktrTop dp un gd cn cs L a ccd cl outer) (call (.ref f) args) Q E s := C _ _ _ _ _ _ _ _ _ _ _ _ _ _ _ _ _ _ _ _ B F X N T hk hd hu ret err

section
variable {prog : Program} {w : World} {A : Around} {E : Value → Shared → Prop} {s : Shared} {env : Env} {h₀ : Heap} {x : Str} {body : List Stmt} {Q : Flow → Shared → Prop}
/-- a for over a range -/
theorem range_loop {r : Addr} {a₀ b₀ c : Int} {t₀ u₀ v₀ : Tok} {n : Nat} {m₀ : Str → Option Value} {news : List (Addr × Obj)} (J : Nat → (Str → Option Value) → List (Addr × Obj) → Prop)
    (hh : A.handled = none) (hr : IsRange s.heap r a₀ b₀ c t₀ u₀ v₀) (hsmall : Builtin.Range.small a₀ b₀ c = true) (hn : Builtin.Range.rangeSize a₀ b₀ c = (n : Int)) (F : Fr h₀ env.locals s.heap m₀) (N : News h₀ env.locals s.heap news) (hj : J 0 m₀ news)
    (turn : ∀ i t m₁ nx h tk I oI, i < n → (∃ fs, oI.data = .fields fs) → (∀ q ∈ nx, q.1 ≠ I) → J i m₁ nx → Fr h₀ env.locals h (fun z => if z = x then some (.int (a₀ + (i : Int) * c) t) else m₁ z) → News h₀ env.locals h ((I, oI) :: nx) →
      wpAny (model prog w) A (execs body env) (InvPostG h₀ env.locals (J (i + 1)) [(I, oI)] { s with heap := h, toks := tk } Q) E { s with heap := h, toks := tk })
    (done : ∀ m₁ nx h tk, J n m₁ nx → Fr h₀ env.locals h m₁ → News h₀ env.locals h nx → Q .next { s with heap := h, toks := tk }) :
    wpAny (model prog w) A (pyIter (.ref r)) (fun it s₂ => LoopAtV prog w A h₀ env x body Q E it s₂) E s := by
  refine wpAny_pyIter_range hr hsmall ?_
  have W : Walks prog w A s.heap.objs.size [s.heap.objs.size] [s.heap.objs.size] n (fun i v => i < n ∧ ∃ t, v = .int (a₀ + i * c) t)
      (fun i h => IsRangeIter h s.heap.objs.size (a₀ + (i : Nat) * c) ((n : Int) - (i : Nat)) c) := (Walks.range hh _ a₀ c n).bound
  refine ⟨_, _, _, n, _, _, m₀, news, J, rfl, W, ?_, ?_, ?_, (by show IsRangeIter _ _ _ _ _; rw [hn]; simpa using Heap.get?_push_size _ rfl), F.push _, (fun p hp => ⟨Heap.get?_push_of_some _ (N p hp).1, (N p hp).2⟩), hj, ?_, ?_⟩
  · intro hm
    exact absurd F.ns.lt ((List.mem_singleton.mp hm) ▸ Nat.lt_irrefl _)
  · intro b hb
    rw [List.mem_singleton.mp hb]
    exact next_is_new F
  · intro p hp hI
    exact absurd (Heap.lt_size (N p hp).1) ((List.mem_singleton.mp hI) ▸ Nat.lt_irrefl _)
  · rintro i v m₁ nx s₁ own ⟨hh', tk', rfl⟩ hin ⟨_, t, rfl⟩ hJ hoff hown hget hall hst F₁ N₁
    have hI0 : h₀.get? s.heap.objs.size = none := next_is_new F
    obtain ⟨oI, hoI, hf⟩ : ∃ oI : Obj, hh'.get? s.heap.objs.size = some oI ∧ ∃ fs, oI.data = .fields fs := ⟨_, hst, _, rfl⟩
    have hIown : (s.heap.objs.size, oI) ∈ own := hall _ (List.mem_singleton.mpr rfl) hI0 _ hoI
    have hoff' : ∀ q ∈ nx, q.1 ≠ s.heap.objs.size := fun q hq e => hoff q hq (List.mem_singleton.mpr e)
    have N₂ : News h₀ env.locals hh' ((s.heap.objs.size, oI) :: nx) := fun p hp => by
      rcases List.mem_cons.mp hp with rfl | hp
      · exact N₁ _ (List.mem_append.mpr (.inl hIown))
      · exact N₁ _ (List.mem_append.mpr (.inr hp))
    refine wpAny_mono (turn i t m₁ nx hh' tk' _ oI hin hf hoff' hJ F₁ N₂) (fun f s₂ p => ?_) fun _ _ e => e
    have fin : InvEndG h₀ env.locals (J (i + 1)) [(s.heap.objs.size, oI)] { s with heap := hh', toks := tk' } s₂ →
        LoopStepU h₀ env.locals [s.heap.objs.size] own (J (i + 1)) { s with heap := hh', toks := tk' } .next s₂ := by
      rintro ⟨h', tk, m', news', nx', e, F', N', hn, ho, hoo, hm⟩
      refine ⟨rfl, h', tk, m', nx', e, F', fun p hp => ?_, fun p hp hq => ?_, hm⟩
      · rcases List.mem_append.mp hp with h | h
        · have h1 : p.1 = s.heap.objs.size := List.mem_singleton.mp (hown p h)
          have h2 : hh'.get? p.1 = some p.2 := hget p h
          rw [h1, hoI] at h2
          have h3 : p = (s.heap.objs.size, oI) := Prod.ext h1 (Option.some.inj h2).symm
          rw [h3]
          exact N' _ (ho _ (List.mem_singleton.mpr rfl))
        · exact N' p (hn p h)
      · exact hoo _ (List.mem_singleton.mpr rfl) p.1 (List.mem_map.mpr ⟨p, hp, rfl⟩) (List.mem_singleton.mp hq).symm
    cases f with
    | ret v => exact .ret p
    | brk => exact .brk p
    | next => exact .next (fin p)
    | cont => exact .cont (fin p)
  · rintro h' tk m' news' F' N' _ hJ
    exact done m' news' h' tk hJ F' N'
end

/-- the stack x: the tags and kinds st -/
structure StackIn (news : List (Addr × Obj)) (x dx lst : Addr) (st : List (Nat × Kd)) : Prop where
  obj : (x, instObj 104 dx) ∈ news
  dic : ∃ hh kt, (dx, dictOf [⟨hh, .str (Str.ofString "items") kt, .ref lst⟩] 1) ∈ news
  lis : ∃ (vs : List Value) (n : Nat), (lst, listOf vs.toArray n) ∈ news ∧ DatAll news vs (st.map itemD)
end
end
section
open PySem PySem.W PyProof.Rows PySem.Spec
section
set_option maxRecDepth 100000 in
set_option maxHeartbeats 8000000 in
theorem raise_mf (w : World) {mean : ExcName → Option Value} {mg mb : Str → Option Value} {dp un : Nat} {gd : Option (List Code)} {cn qual : Str} {cs scope : Scope} {L L' a f : Addr} {ccd cdv : Value} {cl : List (Str × Addr)} {outer : List Env}
    {base g : Heap} {m : Str → Option Value} {s : Shared} {E' : Value → Shared → Prop} {Qe Ee : Value → Shared → Prop} {news : List (Addr × Obj)} {msg : Str} {mt kt : Tok}
    (K : Below (ktrTop dp un gd cn cs L a ccd cl outer) base (envX cn cs L a ccd cl :: outer) g) (F : Fr g L' s.heap m) (X : (Nz.hd.heap_39 w.params).In g) (N : News g L' s.heap news) (T : Top Nz.hd.view_39 (looseW Nz.hd.view_39 [Str.ofString "LendError"]) mean mg mb g)
    (hk : scope.kind = .function) (hd : dp + 40 < recursionLimit) (hu : un + 300 < cLine) (hm : msg.length ≤ 100)
    (hQ : ∀ e dx d n9 h' tk', RaisedX base g (envX cn cs L a ccd cl :: outer) e dx 52 n9 h' → g.UpToSlots h' → (∀ q ∈ news, q ∈ n9) → (dx, d) ∈ n9 → faultD d → Qe (.ref e) { s with heap := h', toks := tk' }) :
    wpAny (model PySem.Challenge.rw_nz0124_01.row.prog w) ((ktrTop dp un gd cn cs L a ccd cl outer).deeper (envOf qual scope L' f cdv)) (call (.ref 52) [.str (Str.ofString "aliased") kt, .str msg mt])
      (XRaise g 52 fun e s' => wpAny (model PySem.Challenge.rw_nz0124_01.row.prog w) ((ktrTop dp un gd cn cs L a ccd cl outer).deeper (envOf qual scope L' f cdv)) (leaving (envOf qual scope L' f cdv) e) (fun _ s'' => Qe e s'') (fun e' s'' => Ee e' s'') s') E' s := by
  revert X
  k_fill
  intro X
  refine' exc_call (fI := 49) F X N ?a1 ?a2 ?a3 ?a4 ?a5 ?a6 (fun e t h1 F1 N1 l1 l2 => ?_)
  case a1 => k_is
  case a2 => decide
  case a3 => decide
  case a4 => decide
  case a5 => k_is
  case a6 => k_is
  have K' := K.push (name := qual) (a := f) (cd := cdv) F1 hk
  have w1 : (Code.builtin "type.__call__" ⟨[.ref 52, .str (Str.ofString "aliased") kt, .str msg mt], []⟩).weight = 1 := rfl
  have w2 : (Code.builtin "type.__call__" ⟨[.ref 52, .str (Str.ofString "aliased") kt, .str msg mt], []⟩).cUnits = 1 := rfl
  refine CallAt.use (mf_init_spec w _ e t msg mt kt (List.mem_cons_self ..) hm) K F1 X N1 T hk (by ktr_room) (by ktr_units) ?_
  rintro r9 n9 h9 tk9 F9 N9 ⟨rfl, t', dx, d, msg', mt', e1, e2, e3, fd, S9⟩
  have N10 := news_front N9 e1
  have hne : dx ≠ e := news_ne N9 e3 e1 (fun h => by obtain ⟨_, _, _, _, _, _, _, _, _, _, rfl⟩ := fd; have := congrArg Obj.cls h; cases this)
  refine ⟨rfl, e, t', some dx, rfl, F9.keep, (N9 _ e1).1, ?_⟩
  refine leave_raiseX K F9 N10 off_ne (fun h' R U => ?_) hk
  exact hQ e dx d _ h' tk9 R U (fun q hq => mem_off.mpr ⟨S9 q (List.mem_cons_of_mem _ (List.mem_cons_of_mem _ hq)) (Nat.ne_of_lt (Nat.lt_trans (l1 q hq) l2)), Nat.ne_of_lt (Nat.lt_trans (l1 q hq) l2)⟩) (mem_off.mpr ⟨e3, hne⟩) fd
end
end
local macro_rules | `(tactic| k_all) => `(tactic| first | assumption | exact off_ne | exact off_ne2 | exact off_ne3 | exact off_ne4 | exact allLt_ne (by assumption))
local macro_rules | `(tactic| walk_at "nz 6") => `(tactic| (k_here; (with_reducible show wpAny _ _ (subscriptTail _ _ (Value.ref _) (Value.int _ _)) _ _ _); k_dflt (refine' item_tupleT ?t ?a ?b ?c ?d ?_; (case t => exact News.isTup (by k_asm) (by k_mem)); (case a => decide); (case b => decide); (case c => rfl); (case d => rfl); k_whole)))
local macro_rules | `(tactic| walk_at "nz 7") => `(tactic| (k_here; k_dflt (refine' x_Raise (C := 52) ?x0 ?x1 ?x2 ?x3 ?_; (case x0 => k_asm); (case x1 => k_is); (case x2 => decide); (case x3 => rfl))))
section
theorem freshNzPlace : True := by
  w_top off
  exact trivial
open PySem PySem.W PyProof.Rows
section
/-- the ledger with the stack's three objects in front -/
theorem StackIn.front {news : List (Addr × Obj)} {x dx lst : Addr} {st : List (Nat × Kd)} (S : StackIn news x dx lst st) {h₀ h : Heap} {L : Addr} (N : News h₀ L h news) :
    ∃ hh kt vs n, News h₀ L h ((x, instObj 104 dx) :: (dx, dictOf [⟨hh, .str (Str.ofString "items") kt, .ref lst⟩] 1) :: (lst, listOf vs.toArray n) :: off lst (off dx (off x news))) ∧
      DatAll news vs (st.map itemD) ∧ (dx, dictOf [⟨hh, .str (Str.ofString "items") kt, .ref lst⟩] 1) ∈ news ∧ (lst, listOf vs.toArray n) ∈ news ∧ ¬ x = dx ∧ ¬ x = lst ∧ ¬ dx = lst ∧
      (∀ q ∈ news, q ∈ (x, instObj 104 dx) :: (dx, dictOf [⟨hh, .str (Str.ofString "items") kt, .ref lst⟩] 1) :: (lst, listOf vs.toArray n) :: off lst (off dx (off x news))) := by
  obtain ⟨o1, ⟨hh, kt, o2⟩, ⟨vs, n, o3, D⟩⟩ := S
  have n1 : ¬ x = dx := news_ne N o1 o2 (fun h => by have := congrArg Obj.cls h; cases this)
  have n2 : ¬ x = lst := news_ne N o1 o3 (fun h => by have := congrArg Obj.cls h; cases this)
  have n3 : ¬ dx = lst := news_ne N o2 o3 (fun h => by have := congrArg Obj.cls h; exact absurd (Value.type.inj this) (by decide))
  refine ⟨hh, kt, vs, n, fun p hp => ?_, D, o2, o3, n1, n2, n3, fun q hq => ?_⟩
  · rcases List.mem_cons.mp hp with rfl | hp
    · exact N _ o1
    · rcases List.mem_cons.mp hp with rfl | hp
      · exact N _ o2
      · rcases List.mem_cons.mp hp with rfl | hp
        · exact N _ o3
        · exact N _ (mem_off.mp (mem_off.mp (mem_off.mp hp).1).1).1
  · by_cases e1 : q.1 = x
    · rw [news_fun N o1 hq e1]; exact List.mem_cons_self ..
    by_cases e2 : q.1 = dx
    · rw [news_fun N o2 hq e2]; exact List.mem_cons_of_mem _ (List.mem_cons_self ..)
    by_cases e3 : q.1 = lst
    · rw [news_fun N o3 hq e3]; exact List.mem_cons_of_mem _ (List.mem_cons_of_mem _ (List.mem_cons_self ..))
    · exact List.mem_cons_of_mem _ (List.mem_cons_of_mem _ (List.mem_cons_of_mem _ (mem_off.mpr ⟨mem_off.mpr ⟨mem_off.mpr ⟨hq, e1⟩, e2⟩, e3⟩)))

section
variable {prog : Program} {w : World} {A : Around} {E : Value → Shared → Prop} {s : Shared} {env : Env} {h₀ : Heap} {x : Str} {body : List Stmt} {Q : Flow → Shared → Prop}
/-- a for over a range, where the body stores no other name -/
theorem range_loop0 {r : Addr} {a₀ b₀ c : Int} {t₀ u₀ v₀ : Tok} {n : Nat} {m₀ : Str → Option Value} {news : List (Addr × Obj)} (J : Nat → List (Addr × Obj) → Prop)
    (hh : A.handled = none) (hr : IsRange s.heap r a₀ b₀ c t₀ u₀ v₀) (hsmall : Builtin.Range.small a₀ b₀ c = true) (hn : Builtin.Range.rangeSize a₀ b₀ c = (n : Int)) (F : Fr h₀ env.locals s.heap m₀) (N : News h₀ env.locals s.heap news) (hj : J 0 news)
    (turn : ∀ i t nx h tk I oI, i < n → (∀ q ∈ nx, q.1 ≠ I) → J i nx → Fr h₀ env.locals h (fun z => if z = x then some (.int (a₀ + (i : Int) * c) t) else m₀ z) → News h₀ env.locals h ((I, oI) :: nx) →
      wpAny (model prog w) A (execs body env) (InvPostG h₀ env.locals (fun m' nx' => (∀ z, z ≠ x → m' z = m₀ z) ∧ J (i + 1) nx') [(I, oI)] { s with heap := h, toks := tk } Q) E { s with heap := h, toks := tk })
    (done : ∀ (u : Str → Option Value) nx h tk, J n nx → Fr h₀ env.locals h (fun z => if z = x then u z else m₀ z) → News h₀ env.locals h nx → Q .next { s with heap := h, toks := tk }) :
    wpAny (model prog w) A (pyIter (.ref r)) (fun it s₂ => LoopAtV prog w A h₀ env x body Q E it s₂) E s :=
  range_loop (fun i m nx => (∀ z, z ≠ x → m z = m₀ z) ∧ J i nx) hh hr hsmall hn F N ⟨fun _ _ => rfl, hj⟩
    (fun i t m₁ nx h tk I oI h1 _ h4 h5 F₁ N₁ => turn i t nx h tk I oI h1 h4 h5.2 (map_x h5.1 ▸ F₁) N₁)
    fun m₁ nx h tk h5 F₁ N₁ => done m₁ nx h tk h5.2 ((map_u h5.1).symm ▸ F₁) N₁
end
theorem item_inv {news : List (Addr × Obj)} {v : Value} {p : Nat × Kd} (h : DatIn news v (itemD p)) : ∃ (tp : Addr) (n : Nat) (t1 t2 : Tok), v = .ref tp ∧ (tp, ({ cls := .type "tuple", data := .seq [Value.int (p.1 : Int) t1, Value.str p.2.t t2].toArray n } : Obj)) ∈ news := by
  unfold itemD at h
  cases h with
  | tuple hm hall =>
    cases hall with
    | cons h1 r =>
      cases r with
      | cons h2 r2 =>
        cases r2
        cases h1
        cases h2
        exact ⟨_, _, _, _, rfl, hm⟩
theorem item_at {prog : Program} {w : World} {A : Around} {E : Value → Shared → Prop} {s : Shared} {h₀ : Heap} {L l : Addr} {value slice : Expr} {news : List (Addr × Obj)} {us : List Value} {n : Nat} {k : Int} {u : Tok} {x : Value} {Q : Value → Shared → Prop}
    (N : News h₀ L s.heap news) (hm : (l, listOf us.toArray n) ∈ news) (hv : us[k.toNat]? = some x) (h0 : 0 ≤ k) (hfit : k < 2 ^ 63) (h : Q x s)
    (hs : subscripted slice false (.ref l) (.int k u) = operate [.ref l, .int k u] (getItem (.ref l) (.int k u)) := by with_unfolding_all rfl) :
    wpAny (model prog w) A (subscriptTail value slice (.ref l) (.int k u)) Q E s := by
  have hl : s.heap.IsList l us.toArray := ⟨_, (N _ hm).1, rfl, n, rfl⟩
  exact tail_any hl.typeIs slot_list_getitem.lookup (wpAny_getItem_list hl h0 hfit (by simpa using hv) h) hs

local macro_rules | `(tactic| walk_at "call builtin:len") => `(tactic| (k_here; (with_reducible show wpAny _ _ (call (Value.builtin "len") [Value.ref _]) _ _ _); k_dflt (refine' kd_len ?k1 ?k2 ?k3 ?k4 ?_; (case k1 => k_asm); (case k2 => k_mem); (case k3 => assumption); (case k4 => (simp only [List.length_map]; omega)); k_whole); (try simp only [List.length_map])))
local macro_rules | `(tactic| walk_at "subscriptTail") => `(tactic| (k_here; (with_reducible show wpAny _ _ (subscriptTail _ _ (Value.ref _) (Value.int _ _)) _ _ _); k_dflt (refine' item_at ?k1 ?k2 ?k3 ?k4 ?k5 ?_ ?k6; (case k1 => k_asm); (case k2 => k_mem); (case k3 => assumption); (case k4 => omega); (case k5 => omega); (case k6 => with_unfolding_all rfl); k_whole)))
local macro_rules | `(tactic| walk_at "subscriptTail") => `(tactic| walk_at "nz 6")
local macro_rules | `(tactic| walk_at "exec Raise some none") => `(tactic| walk_at "nz 7")
set_option maxRecDepth 100000 in
set_option maxHeartbeats 8000000 in
theorem place_spec (w : World) (news : List (Addr × Obj)) (x dx lst : Addr) (st : List (Nat × Kd)) (tag : Int) (tt : Tok) (S : StackIn news x dx lst st) (hsz : st.length ≤ 64) :
    CallX PySem.Challenge.rw_nz0124_01.row.prog w (Nz.hd.heap_39 w.params) Nz.hd.view_39 (looseW Nz.hd.view_39 [Str.ofString "LendError"]) 75 [.ref x, .int tag tt] 48 320 news
      (fun v news' => (∃ (i j : Nat) (k : Kd) (t : Tok), st[i]? = some (j, k) ∧ (j : Int) = tag ∧ v = .int (i : Int) t) ∧ ∀ q ∈ news, q ∈ news') (∀ p ∈ st, (p.1 : Int) ≠ tag) := by
  unfold CallX
  k_fill
  intro mean mg mb dp un gd cn cs ad ccd cl outer A₀ base h₀ L m s Q E B F X N0 T hk hd hu hret herr
  obtain ⟨hh, kt, vs, n, N, D, hdx, hlst, n1, n2, n3, hsub⟩ := S.front N0
  have hlen : vs.length = st.length := by rw [D.length, List.length_map]
  clear N0
  refine wpAny_call ?_
  k_dflt ktr_enter
  k_steps
  rename Fr _ _ _ _ => F1
  rename News _ _ _ _ => N1
  rename IsRange _ _ _ _ _ _ _ _ => R1
  refine range_loop0 (n := st.length) (fun i nx => (∀ q ∈ news, q ∈ nx) ∧ ∀ (j : Nat) (p : Nat × Kd), st.length - i ≤ j → st[j]? = some p → (p.1 : Int) ≠ tag) rfl R1 ?_ ?_ F1 N1 ⟨hsub, fun j p h1 h2 => absurd (List.getElem?_eq_some_iff.mp h2).1 (by omega)⟩ ?_ ?_
  · exact small_down (by omega) (by omega) (by omega) (by omega)
  · rw [rangeSize_downNat]; omega
  · clear F1 N1 R1
    rintro i t nx h tk I oI hi hI ⟨SX, JX⟩ F2 N2
    obtain ⟨a, ha⟩ : ∃ a : Nat, a = st.length - 1 - i := ⟨_, rfl⟩
    have hal : a < st.length := by omega
    have e : ((st.length : Int) - 1 + (i : Int) * -1) = (a : Int) := by omega
    rw [e] at F2
    have hget : st[a]? = some st[a] := List.getElem?_eq_getElem hal
    obtain ⟨v, hv, hD⟩ := D.get (k := a) (by rw [List.length_map]; exact hal)
    rw [List.getElem_map] at hD
    obtain ⟨tp, ntp, t1, t2, rfl, htp⟩ := item_inv hD
    replace hv : vs[((a : Int)).toNat]? = some (.ref tp) := by simpa using hv
    have N3 : News _ _ _ ((x, instObj 104 dx) :: (dx, dictOf [⟨hh, .str (Str.ofString "items") kt, .ref lst⟩] 1) :: (lst, listOf vs.toArray n) :: (tp, ({ cls := .type "tuple", data := .seq [Value.int (st[a].1 : Int) t1, Value.str st[a].2.t t2].toArray ntp } : Obj)) :: (I, oI) :: nx) := news_sub N2 fun p hp => by
      simp only [List.mem_cons] at hp
      rcases hp with rfl | rfl | rfl | rfl | rfl | hp
      · exact List.mem_cons_of_mem _ (SX _ S.obj)
      · exact List.mem_cons_of_mem _ (SX _ hdx)
      · exact List.mem_cons_of_mem _ (SX _ hlst)
      · exact List.mem_cons_of_mem _ (SX _ htp)
      · exact List.mem_cons_self ..
      · exact List.mem_cons_of_mem _ hp
    have hst : st[a]? = some (st[a].1, st[a].2) := hget
    generalize st[a].1 = j0 at *
    generalize st[a].2 = k0 at *
    clear N2
    have hsub3 : ∀ q ∈ nx, q ∈ ((x, instObj 104 dx) :: (dx, dictOf [⟨hh, .str (Str.ofString "items") kt, .ref lst⟩] 1) :: (lst, listOf vs.toArray n) :: (tp, ({ cls := .type "tuple", data := .seq [Value.int (j0 : Int) t1, Value.str k0.t t2].toArray ntp } : Obj)) :: (I, oI) :: nx) := fun q hq => List.mem_cons_of_mem _ (List.mem_cons_of_mem _ (List.mem_cons_of_mem _ (List.mem_cons_of_mem _ (List.mem_cons_of_mem _ hq))))
    k_steps
    · rename News h₀ _ _ _ => N6
      exact hret _ _ _ _ (by assumption) N6 ⟨⟨a, j0, k0, _, hst, by assumption, rfl⟩, fun q hq => hsub3 q (SX q hq)⟩
    · rename (_ : Int) ≠ tag => hne
      refine inv_end nx (by assumption) (by assumption) ⟨fun z hz => by simp [hz], SX, fun j p h1 h2 => ?_⟩ hI hsub3 (by k_mem)
      by_cases hj : j = a
      · subst hj
        rw [hst] at h2
        cases h2
        exact hne
      · exact JX j p (by omega) h2
  · clear F1 N1 R1
    intro u nx h tk ⟨SX, JX⟩ F2 N2
    have hnone : ∀ p ∈ st, (p.1 : Int) ≠ tag := fun p hp => by
      obtain ⟨j, hj, rfl⟩ := List.mem_iff_getElem.mp hp
      exact JX j _ (by omega) (List.getElem?_eq_getElem hj)
    k_steps
    rename Below _ base _ _ => BX
    rename Frag.In _ _ => XX
    rename Top _ _ _ _ _ _ => TX
    rename Fr h₀ L _ _ => FG
    exact raise_mf w BX F2 XX N2 TX rfl (by ktr_room) (by ktr_units) (by decide) fun e dx9 d n9 h9 tk9 R U S9 D9 fd => herr hnone e dx9 d _ n9 h9 tk9 FG R U (fun q hq => S9 q (SX q hq)) D9 fd
end
end
local macro_rules | `(tactic| walk_at "nz 5") => `(tactic| (k_here; (with_reducible show wpAny _ _ (subscriptTail _ _ (Value.ref _) (Value.int _ _)) _ _ _); k_dflt (refine' item_at ?k1 ?k2 ?k3 ?k4 ?k5 ?_ ?k6; (case k1 => k_asm); (case k2 => k_mem); (case k3 => assumption); (case k4 => omega); (case k5 => omega); (case k6 => with_unfolding_all rfl); k_whole)))
section
theorem freshNzKind : True := by
  w_top off
  exact trivial
open PySem PySem.W PyProof.Rows
section
local macro_rules | `(tactic| walk_at "subscriptTail") => `(tactic| walk_at "nz 5")
local macro_rules | `(tactic| walk_at "subscriptTail") => `(tactic| walk_at "nz 6")
theorem StackIn.sub {news news' : List (Addr × Obj)} {x dx lst : Addr} {st : List (Nat × Kd)} (S : StackIn news x dx lst st) (hs : ∀ q ∈ news, q ∈ news') : StackIn news' x dx lst st := by
  obtain ⟨o1, ⟨hh, kt, o2⟩, ⟨vs, n, o3, D⟩⟩ := S
  exact ⟨hs _ o1, ⟨hh, kt, hs _ o2⟩, ⟨vs, n, hs _ o3, D.mono hs⟩⟩
/-- what a call of place tells of the row it found -/
theorem row_at {news : List (Addr × Obj)} {vs : List Value} {st : List (Nat × Kd)} {i j : Nat} {k : Kd} (D : DatAll news vs (st.map itemD)) (h : st[i]? = some (j, k)) :
    ∃ (tp : Addr) (n : Nat) (t1 t2 : Tok), vs[((i : Nat) : Int).toNat]? = some (.ref tp) ∧ (tp, ({ cls := .type "tuple", data := .seq [Value.int (j : Int) t1, Value.str k.t t2].toArray n } : Obj)) ∈ news := by
  have hi := (List.getElem?_eq_some_iff.mp h).1
  have he := (List.getElem?_eq_some_iff.mp h).2
  obtain ⟨v, hv, hD⟩ := D.get (k := i) (by rw [List.length_map]; exact hi)
  rw [List.getElem_map, he] at hD
  obtain ⟨tp, ntp, t1, t2, rfl, htp⟩ := item_inv hD
  exact ⟨tp, ntp, t1, t2, by simpa using hv, htp⟩
set_option maxRecDepth 100000 in
set_option maxHeartbeats 8000000 in
theorem kind_spec (w : World) (news : List (Addr × Obj)) (x dx lst : Addr) (st : List (Nat × Kd)) (tag : Int) (tt : Tok) (S : StackIn news x dx lst st) (hsz : st.length ≤ 64) :
    CallX PySem.Challenge.rw_nz0124_01.row.prog w (Nz.hd.heap_39 w.params) Nz.hd.view_39 (looseW Nz.hd.view_39 [Str.ofString "LendError"]) 82 [.ref x, .int tag tt] 60 400 news
      (fun v news' => (∃ (i j : Nat) (k : Kd) (t : Tok), st[i]? = some (j, k) ∧ (j : Int) = tag ∧ v = .str k.t t) ∧ ∀ q ∈ news, q ∈ news') (∀ p ∈ st, (p.1 : Int) ≠ tag) := by
  unfold CallX
  k_fill
  intro mean mg mb dp un gd cn cs ad ccd cl outer A₀ base h₀ L m s Q E B F X N0 T hk hd hu hret herr
  obtain ⟨hh, kt, vs, n, N, D, hdx, hlst, n1, n2, n3, hsub⟩ := S.front N0
  clear N0
  refine wpAny_call ?_
  k_dflt ktr_enter
  k_steps
  rename News _ _ _ _ => N5
  rename Below _ base _ _ => BX
  rename Fr h₀ L _ _ => FG
  refine CallX.use (place_spec w _ x dx lst st tag tt (S.sub hsub) hsz) (by k_asm) (by k_asm) (by k_asm) N5 (by k_asm) (by first | exact rfl | assumption) (by ktr_room) (by ktr_units) ?_ ?_
  · rintro r9 n9 h9 tk9 F9 N9 ⟨⟨i, j, k, t, hi, hj, rfl⟩, S9⟩
    have hil := (List.getElem?_eq_some_iff.mp hi).1
    obtain ⟨tp, ntp, t1, t2, hv, htp⟩ := row_at D hi
    replace N9 := news_sub N9 (l' := (lst, listOf vs.toArray n) :: (tp, ({ cls := .type "tuple", data := .seq [Value.int (j : Int) t1, Value.str k.t t2].toArray ntp } : Obj)) :: n9) (fun p hp => by
      simp only [List.mem_cons] at hp
      rcases hp with rfl | rfl | hp
      · exact S9 _ (hsub _ hlst)
      · exact S9 _ (hsub _ htp)
      · exact hp)
    clear F N5
    k_steps
    rename News h₀ _ _ _ => N6
    exact hret _ _ _ _ (by assumption) N6 ⟨⟨i, j, k, _, hi, hj, rfl⟩, fun q hq => List.mem_cons_of_mem _ (List.mem_cons_of_mem _ (S9 q (hsub q hq)))⟩
  · intro hn e dx9 d g9 n9 h9 tk9 FG9 R U S9 D9 fd
    exact leave_onX BX FG9 R U (fun h' R' U' => herr hn e dx9 d _ n9 h' tk9 FG R' U' (fun q hq => S9 q (hsub q hq)) D9 fd)
end
end
section
open PySem PySem.W PyProof.Rows
set_option maxRecDepth 100000
section
section
variable {prog : Program} {w : World} {A : Around} {E : Value → Shared → Prop} {s : Shared} {h₀ : Heap} {L l a b : Addr} {m : Str → Option Value} {news : List (Addr × Obj)} {value slice : Expr} {us ws : List Value} {n k : Nat} {y : Int} {ty : Tok} {Q : Value → Shared → Prop}
theorem pick_upto (h : 0 ≤ y) : slicePick us.toArray none (some y) none = (us.take y.toNat).toArray := by
  have e : sliceBounds none (some y) none us.toArray.size = (((0 : Nat) : Int), ((min y.toNat us.toArray.size : Nat) : Int), 1) := by
    simp only [sliceBounds, Option.getD_none, show (1 : Int) > 0 by decide, if_true, if_neg (show ¬ (y < 0) by omega)]
    congr 1
    congr 1
    omega
  rw [kmk_pick_nat _ e]
  show ((us.drop 0).take (min y.toNat us.toArray.size - 0)).toArray = _
  rw [List.drop_zero, Nat.sub_zero, List.size_toArray, kmk_take_min]
theorem pick_from (h : 0 ≤ y) : slicePick us.toArray (some y) none none = (us.drop y.toNat).toArray := by
  have e : sliceBounds (some y) none none us.toArray.size = (((min y.toNat us.toArray.size : Nat) : Int), ((us.toArray.size : Nat) : Int), 1) := by
    simp only [sliceBounds, Option.getD_none, show (1 : Int) > 0 by decide, if_true, if_neg (show ¬ (y < 0) by omega)]
    congr 1
    omega
  rw [kmk_pick_nat _ e]
  show ((us.drop (min y.toNat us.toArray.size)).take (us.toArray.size - min y.toNat us.toArray.size)).toArray = _
  rw [List.size_toArray, kmk_drop_min, List.take_of_length_le (by rw [List.length_drop]; omega)]
theorem slice_upto (F : Fr h₀ L s.heap m) (N : News h₀ L s.heap news) (hl : (l, listOf us.toArray n) ∈ news) (h0 : 0 ≤ y)
    (h : ∀ D h', Fr h₀ L h' m → News h₀ L h' ((D, listOf (us.take y.toNat).toArray 0) :: news) → (∀ p ∈ news, p.1 < D) → Q (.ref D) { s with heap := h' })
    (hs : subscripted slice false (.ref l) (.ref s.heap.objs.size) = operate [.ref s.heap.objs.size, .ref l] (getItem (.ref l) (.ref s.heap.objs.size))) (ht : ∀ r, letTemporaryGo value (.ref l) r = pure ()) (hz : us.length ≤ 64) :
    wpAny (model prog w) A (subscriptTail value slice (.ref l) (.ref s.heap.objs.size)) Q E { s with heap := s.heap.push { cls := .type "slice", data := .fields #[.none, .int y ty, .none] } } :=
  kmk_slice F N (News.isList N hl) IsPart.none (IsPart.int _ _) (fun D h' F' N' l1 => h D h' F' (by rw [pick_upto h0] at N'; exact N') l1) hs ht (by rw [List.size_toArray, sizeLine_eq]; omega)
theorem slice_from (F : Fr h₀ L s.heap m) (N : News h₀ L s.heap news) (hl : (l, listOf us.toArray n) ∈ news) (h0 : 0 ≤ y)
    (h : ∀ D h', Fr h₀ L h' m → News h₀ L h' ((D, listOf (us.drop y.toNat).toArray 0) :: news) → (∀ p ∈ news, p.1 < D) → Q (.ref D) { s with heap := h' })
    (hs : subscripted slice false (.ref l) (.ref s.heap.objs.size) = operate [.ref s.heap.objs.size, .ref l] (getItem (.ref l) (.ref s.heap.objs.size))) (ht : ∀ r, letTemporaryGo value (.ref l) r = pure ()) (hz : us.length ≤ 64) :
    wpAny (model prog w) A (subscriptTail value slice (.ref l) (.ref s.heap.objs.size)) Q E { s with heap := s.heap.push { cls := .type "slice", data := .fields #[.int y ty, .none, .none] } } :=
  kmk_slice F N (News.isList N hl) (IsPart.int _ _) IsPart.none (fun D h' F' N' l1 => h D h' F' (by rw [pick_from h0] at N'; exact N') l1) hs ht (by rw [List.size_toArray, sizeLine_eq]; omega)
theorem nz_add (F : Fr h₀ L s.heap m) (N : News h₀ L s.heap news) (ha : (a, listOf us.toArray n) ∈ news) (hb : (b, listOf ws.toArray k) ∈ news)
    (h : ∀ D h', Fr h₀ L h' m → News h₀ L h' ((D, listOf (us ++ ws).toArray 0) :: news) → (∀ p ∈ news, p.1 < D) → Q (.ref D) { s with heap := h' })
    (hz : us.length + ws.length ≤ 200) : wpAny (model prog w) A (binaryOp .Add (.ref a) (.ref b)) Q E s :=
  kmk_add_lit F N (News.isList N ha) (News.isList N hb) rfl h (by rw [sizeLine_eq]; simpa using Nat.le_trans hz (by decide))
end
theorem item_mk {news : List (Addr × Obj)} {tp : Addr} {n : Nat} {t1 t2 : Tok} {p : Nat × Kd} (h : (tp, ({ cls := .type "tuple", data := .seq [Value.int (p.1 : Int) t1, Value.str p.2.t t2].toArray n } : Obj)) ∈ news) : DatIn news (.ref tp) (itemD p) := by
  unfold itemD
  exact .tuple h (.cons (.int _ _) (.cons (.str _ _) .nil))
theorem items_mono {news news' : List (Addr × Obj)} (hs : ∀ a (us : List Value) n, (a, ({ cls := .type "tuple", data := .seq us.toArray n } : Obj)) ∈ news → (a, ({ cls := .type "tuple", data := .seq us.toArray n } : Obj)) ∈ news') :
    ∀ {st : List (Nat × Kd)} {vs : List Value}, DatAll news vs (st.map itemD) → DatAll news' vs (st.map itemD)
  | [], _, h => by cases h; exact .nil
  | p :: st, _, h => by
    cases h with
    | cons h1 r =>
      obtain ⟨tp, n, t1, t2, rfl, m⟩ := item_inv h1
      exact .cons (item_mk (hs _ _ _ m)) (items_mono hs r)
theorem items_take {news : List (Addr × Obj)} : ∀ (i : Nat) {st : List (Nat × Kd)} {vs : List Value}, DatAll news vs (st.map itemD) → DatAll news (vs.take i) ((st.take i).map itemD)
  | 0, _, _, _ => by rw [List.take_zero, List.take_zero]; exact .nil
  | _ + 1, [], _, h => by cases h; exact .nil
  | i + 1, p :: st, _, h => by
    cases h with
    | cons h1 r => exact .cons h1 (items_take i r)
theorem items_drop {news : List (Addr × Obj)} : ∀ (i : Nat) {st : List (Nat × Kd)} {vs : List Value}, DatAll news vs (st.map itemD) → DatAll news (vs.drop i) ((st.drop i).map itemD)
  | 0, _, _, h => h
  | _ + 1, [], _, h => by cases h; exact .nil
  | i + 1, p :: st, _, h => by
    cases h with
    | cons h1 r => exact items_drop i r
end
end
local macro_rules | `(tactic| walk_at "nz 8") => `(tactic| (k_here; (with_reducible show wpAny _ _ (subscriptTail _ (PySem.Expr.Slice none (some _) none _) (Value.ref _) (Value.ref _)) _ _ _); k_dflt (refine' slice_upto ?F ?N ?l ?p ?_ ?s ?t ?z; (case F => k_asm); (case N => k_asm); (case l => k_mem); (case p => omega); (case s => with_unfolding_all rfl); (case t => (intro _; with_unfolding_all rfl)); (case z => ((try simp only [List.length_append, List.length_take, List.length_map]); omega))); intro D' h' F' N' l1; (try k_lt l1)))
local macro_rules | `(tactic| walk_at "nz 9") => `(tactic| (k_here; (with_reducible show wpAny _ _ (binaryOp _ (Value.ref _) (Value.ref _)) _ _ _); k_dflt (refine' nz_add ?F ?N ?a ?b ?_ ?z; (case F => k_asm); (case N => k_asm); (case a => k_mem); (case b => k_mem); (case z => ((try simp only [List.length_append, List.length_take, List.length_drop, List.length_cons, List.length_nil]); omega))); intro D' h' F' N' l1; (try k_lt l1)))
section
theorem freshNzWrite : True := by
  w_top off
  exact trivial
open PySem PySem.W PyProof.Rows
section
local macro_rules | `(tactic| walk_at "subscriptTail") => `(tactic| walk_at "nz 5")
local macro_rules | `(tactic| walk_at "subscriptTail") => `(tactic| walk_at "nz 6")
local macro_rules | `(tactic| walk_at "exec Raise some none") => `(tactic| walk_at "nz 7")
local macro_rules | `(tactic| walk_at "subscriptTail Name Slice ref ref") => `(tactic| walk_at "nz 8")
local macro_rules | `(tactic| walk_at "binaryOp Add ref ref") => `(tactic| walk_at "nz 9")
theorem natNe {a b : Addr} (h : ¬ a = b) : @Ne Nat a b := h
set_option maxRecDepth 100000 in
set_option maxHeartbeats 8000000 in
theorem write_spec (w : World) (news : List (Addr × Obj)) (x dx lst : Addr) (st : List (Nat × Kd)) (tag : Nat) (tt : Tok) (S : StackIn news x dx lst st) (hsz : st.length ≤ 64) :
    CallX PySem.Challenge.rw_nz0124_01.row.prog w (Nz.hd.heap_39 w.params) Nz.hd.view_39 (looseW Nz.hd.view_39 [Str.ofString "LendError"]) 94 [.ref x, .int (tag : Int) tt] 60 400 news
      (fun v news' => v = .none ∧ (∃ (i : Nat) (k : Kd) (lst' : Addr), st[i]? = some (tag, k) ∧ k ≠ .s ∧ StackIn news' x dx lst' (st.take i ++ [(tag, .u)]) ∧ ∀ q ∈ news, q.1 ≠ lst') ∧ ∀ q ∈ news, q.1 ≠ dx → q ∈ news')
      ((∀ p ∈ st, p.1 ≠ tag) ∨ ∃ p ∈ st, p = (tag, .s)) := by
  unfold CallX
  k_fill
  intro mean mg mb dp un gd cn cs ad ccd cl outer A₀ base h₀ L m s Q E B F X N0 T hk hd hu hret herr
  obtain ⟨hh, kt, vs, n, N, D, hdx, hlst, n1, n2, n3, hsub⟩ := S.front N0
  clear N0
  refine wpAny_call ?_
  k_dflt ktr_enter
  k_steps
  rename News _ _ _ _ => N5
  rename Below _ base _ _ => BX
  rename Fr h₀ L _ _ => FG
  refine CallX.use (place_spec w _ x dx lst st tag tt (S.sub hsub) hsz) (by k_asm) (by k_asm) (by k_asm) N5 (by k_asm) (by first | exact rfl | assumption) (by ktr_room) (by ktr_units) ?_ ?_
  · rintro r9 n9 h9 tk9 F9 N9 ⟨⟨i, j, k, t, hi, hj, rfl⟩, S9⟩
    obtain rfl : j = tag := by omega
    have hil := (List.getElem?_eq_some_iff.mp hi).1
    obtain ⟨hh', kt', vs', n', N10, D', hdx', hlst', -, -, -, hsub'⟩ := ((S.sub hsub).sub S9).front N9
    have hlen : vs'.length = st.length := by rw [D'.length, List.length_map]
    obtain ⟨tp, ntp, t1, t2, hv, htp⟩ := row_at D' hi
    have e1 : ¬ tp = x := news_ne N9 htp (((S.sub hsub).sub S9).obj) (fun h => by have := congrArg Obj.cls h; cases this)
    have e2 : ¬ tp = dx := news_ne N9 htp hdx' (fun h => by have := congrArg Obj.cls h; exact absurd (Value.type.inj this) (by decide))
    have e3 : ¬ tp = lst := news_ne N9 htp hlst' (fun h => by have := congrArg Obj.cls h; exact absurd (Value.type.inj this) (by decide))
    have e4 : ¬ x = tp := fun h => e1 h.symm
    have e5 : ¬ dx = tp := fun h => e2 h.symm
    have e6 : ¬ lst = tp := fun h => e3 h.symm
    have hto : (tp, ({ cls := .type "tuple", data := .seq [Value.int (j : Int) t1, Value.str k.t t2].toArray ntp } : Obj)) ∈ off lst (off dx (off x n9)) := mem_off.mpr ⟨mem_off.mpr ⟨mem_off.mpr ⟨htp, e1⟩, e2⟩, e3⟩
    have N11 : News _ _ _ ((x, instObj 104 dx) :: (dx, dictOf [⟨hh', .str (Str.ofString "items") kt', .ref lst⟩] 1) :: (lst, listOf vs'.toArray n') :: (tp, ({ cls := .type "tuple", data := .seq [Value.int (j : Int) t1, Value.str k.t t2].toArray ntp } : Obj)) :: off lst (off dx (off x n9))) := news_sub N10 fun p hp => by
      simp only [List.mem_cons] at hp ⊢
      rcases hp with rfl | rfl | rfl | rfl | hp
      · exact .inl rfl
      · exact .inr (.inl rfl)
      · exact .inr (.inr (.inl rfl))
      · exact .inr (.inr (.inr hto))
      · exact .inr (.inr (.inr hp))
    have z1 := natNe e1
    have z2 := natNe e2
    have z3 := natNe e3
    have z4 := natNe n1
    have z5 := natNe n2
    have z6 := natNe n3
    clear F N5 N10
    have hX : (x, instObj 104 dx) ∈ n9 := ((S.sub hsub).sub S9).obj
    have hall : ∀ q ∈ news, q ∈ (x, instObj 104 dx) :: (dx, dictOf [⟨hh', .str (Str.ofString "items") kt', .ref lst⟩] 1) :: (lst, listOf vs'.toArray n') :: off lst (off dx (off x n9)) := fun q hq => hsub' q (S9 q (hsub q hq))
    cases k
    all_goals (simp only [Kd.t] at *)
    case s =>
      k_steps
      rename Frag.In _ _ => XX
      rename Top _ _ _ _ _ _ => TX
      rename Fr _ _ _ _ => F6
      rename News _ _ _ _ => N6
      refine raise_mf w BX F6 XX N6 TX rfl (by ktr_room) (by ktr_units) (by decide) fun e dx9 d n9 h9 tk9 R U S9 D9 fd => herr (.inr ⟨_, List.mem_of_getElem? hi, rfl⟩) e dx9 d _ n9 h9 tk9 FG R U (fun q hq => S9 q ?_) D9 fd
      have := hall q hq
      simp only [List.mem_cons] at this ⊢
      rcases this with h | h | h | h
      · exact .inl h
      · exact .inr (.inl h)
      · exact .inr (.inr (.inl h))
      · exact .inr (.inr (.inr (.inr h)))
    all_goals k_steps
    all_goals (
      rename News h₀ _ _ _ => N6
      rename Fr h₀ _ _ _ => F6
      rename _ ∧ _ ∧ _ ∧ _ ∧ _ ∧ _ ∧ _ ∧ AllLt _ _ => l1
      refine hret _ _ _ _ (by assumption) N6 ⟨rfl, ⟨i, _, _, hi, nofun, ⟨by k_mem, ⟨_, _, by k_mem⟩, ⟨_, _, by k_mem, ?_⟩⟩, fun q hq e => ?_⟩, fun q hq hqd => ?_⟩
      · rw [List.map_append, Int.toNat_natCast]
        refine DatAll.append (items_mono (fun a us n hm => ?_) (items_take i D')) (.one (item_mk (by k_mem)))
        have := hsub' _ hm
        simp only [List.mem_cons] at this
        rcases this with h | h | h | h
        · have := congrArg (fun p => p.2.cls) h; cases this
        · have := congrArg (fun p => p.2.cls) h; exact absurd (Value.type.inj this) (by decide)
        · have := congrArg (fun p => p.2.cls) h; exact absurd (Value.type.inj this) (by decide)
        · k_mem
      · have := hall q hq
        simp only [List.mem_cons] at this
        rcases this with h | h | h | h
        · rw [h] at e; exact absurd e (Nat.ne_of_lt l1.2.2.2.1)
        · rw [h] at e; exact absurd e (Nat.ne_of_lt l1.2.2.2.2.1)
        · rw [h] at e; exact absurd e (Nat.ne_of_lt l1.2.2.2.2.2.1)
        · exact absurd e (Nat.ne_of_lt (allLt_mem l1.2.2.2.2.2.2.2 q h))
      · have := hall q hq
        simp only [List.mem_cons] at this
        rcases this with h | h | h | h
        · rw [h]; k_mem
        · exact absurd (congrArg Prod.fst h) hqd
        · rw [h]; k_mem
        · k_mem)
  · intro hn e dx9 d g9 n9 h9 tk9 FG9 R U S9 D9 fd
    exact leave_onX BX FG9 R U (fun h' R' U' => herr (.inl fun p hp e' => hn p hp (by rw [e'])) e dx9 d _ n9 h' tk9 FG R' U' (fun q hq => S9 q (hsub q hq)) D9 fd)
end
end
section
theorem freshNzRead : True := by
  w_top off
  exact trivial
local macro_rules | `(tactic| walk_at "pad 0") => `(tactic| fail)
open PySem PySem.W PyProof.Rows PyProof.Rows.LCg PyProof.Rows.LCt
section
local macro_rules | `(tactic| walk_at "subscriptTail") => `(tactic| walk_at "nz 6")
local macro_rules | `(tactic| walk_at "subscriptTail Name Slice ref ref") => `(tactic| walk_at "nz 8")
local macro_rules | `(tactic| walk_at "subscriptTail Name Slice ref ref") => `(tactic| (k_here; (with_reducible show wpAny _ _ (subscriptTail _ (PySem.Expr.Slice (some _) none none _) (Value.ref _) (Value.ref _)) _ _ _); k_dflt (refine' slice_from ?F ?N ?l ?p ?_ ?s ?t ?z; (case F => k_asm); (case N => k_asm); (case l => k_mem); (case p => omega); (case s => with_unfolding_all rfl); (case t => (intro _; with_unfolding_all rfl)); (case z => ((try simp only [List.length_append, List.length_take, List.length_map]); omega))); intro D' h' F' N' l1; (try k_lt l1)))
local macro_rules | `(tactic| walk_at "binaryOp Add ref ref") => `(tactic| walk_at "nz 9")
local macro_rules | `(tactic| walk_at "exec Assign cons ListComp") => `(tactic| (k_here; k_dflt (refine LCt.Assign_ListComp_T (F₀ := by k_asm) (by rfl) (by with_unfolding_all rfl) (by with_unfolding_all rfl) (by decide) (by rfl) (by decide) (by rfl) (by rfl) (by rfl) ?_)))
/-- what a read leaves above its own row -/
def keptOf (st : List (Nat × Kd)) : List (Nat × Kd) := st.filter fun p => !p.2.isU
theorem kept_succ {ss : List (Nat × Kd)} {c : Nat} {p : Nat × Kd} (h : ss[c]? = some p) : keptOf (ss.take (c + 1)) = keptOf (ss.take c) ++ (if !p.2.isU then [p] else []) := by
  unfold keptOf
  rw [List.take_add_one, h, Option.toList_some, List.filter_append]
  by_cases hp : (!p.2.isU) = true
  · simp only [List.filter_cons, List.filter_nil, hp, if_true]
  · simp only [List.filter_cons, List.filter_nil, hp, if_false, Bool.false_eq_true]
theorem off1_mem {D : Addr} : ∀ {l : List (Addr × Obj)}, Off1 D l → ∀ p ∈ l, @Ne Nat p.1 D
  | [], _, p, h => nomatch h
  | _ :: _, x, p, h => by
    rcases List.mem_cons.mp h with rfl | h
    · exact x.1
    · exact off1_mem x.2 p h
theorem cover3 {x dx lst : Addr} {ox od ol : Obj} {nw : List (Addr × Obj)} {h₀ h : Heap} {L : Addr} (N : News h₀ L h nw) (hx : (x, ox) ∈ nw) (hd : (dx, od) ∈ nw) (hl : (lst, ol) ∈ nw) :
    ∀ q ∈ nw, q ∈ (x, ox) :: (dx, od) :: (lst, ol) :: off lst (off dx (off x nw)) := fun q hq => by
  by_cases e1 : q.1 = x
  · rw [news_fun N hx hq e1]; exact List.mem_cons_self ..
  by_cases e2 : q.1 = dx
  · rw [news_fun N hd hq e2]; exact List.mem_cons_of_mem _ (List.mem_cons_self ..)
  by_cases e3 : q.1 = lst
  · rw [news_fun N hl hq e3]; exact List.mem_cons_of_mem _ (List.mem_cons_of_mem _ (List.mem_cons_self ..))
  · exact List.mem_cons_of_mem _ (List.mem_cons_of_mem _ (List.mem_cons_of_mem _ (mem_off.mpr ⟨mem_off.mpr ⟨mem_off.mpr ⟨hq, e1⟩, e2⟩, e3⟩)))
set_option maxRecDepth 100000 in
set_option maxHeartbeats 8000000 in
theorem read_spec (w : World) (news : List (Addr × Obj)) (x dx lst : Addr) (st : List (Nat × Kd)) (tag : Nat) (tt : Tok) (S : StackIn news x dx lst st) (hsz : st.length ≤ 64) :
    CallX PySem.Challenge.rw_nz0124_01.row.prog w (Nz.hd.heap_39 w.params) Nz.hd.view_39 (looseW Nz.hd.view_39 [Str.ofString "LendError"]) 87 [.ref x, .int (tag : Int) tt] 60 400 news
      (fun v news' => v = .none ∧ (∃ (i : Nat) (k : Kd) (lst' : Addr), st[i]? = some (tag, k) ∧ StackIn news' x dx lst' (st.take (i + 1) ++ keptOf (st.drop (i + 1))) ∧ ∀ q ∈ news, q.1 ≠ lst') ∧ ∀ q ∈ news, q.1 ≠ dx → q ∈ news')
      (∀ p ∈ st, p.1 ≠ tag) := by
  unfold CallX
  k_fill
  intro mean mg mb dp un gd cn cs ad ccd cl outer A₀ base h₀ L m s Q E B F X N0 T hk hd hu hret herr
  obtain ⟨hh, kt, vs, n, N, D, hdx, hlst, n1, n2, n3, hsub⟩ := S.front N0
  clear N0
  refine wpAny_call ?_
  k_dflt ktr_enter
  k_steps
  rename News _ _ _ _ => N5
  rename Below _ base _ _ => BX
  rename Fr h₀ L _ _ => FG
  refine CallX.use (place_spec w _ x dx lst st tag tt (S.sub hsub) hsz) (by k_asm) (by k_asm) (by k_asm) N5 (by k_asm) (by first | exact rfl | assumption) (by ktr_room) (by ktr_units) ?_ ?_
  · rintro r9 n9 h9 tk9 F9 N9 ⟨⟨i, j, k, t, hi, hj, rfl⟩, S9⟩
    obtain rfl : j = tag := by omega
    have hil := (List.getElem?_eq_some_iff.mp hi).1
    obtain ⟨hh', kt', vs', n', N10, D', hdx', hlst', -, -, -, hsub'⟩ := ((S.sub hsub).sub S9).front N9
    have hlen : vs'.length = st.length := by rw [D'.length, List.length_map]
    have hX : (x, instObj 104 dx) ∈ n9 := ((S.sub hsub).sub S9).obj
    have hall : ∀ q ∈ news, q ∈ (x, instObj 104 dx) :: (dx, dictOf [⟨hh', .str (Str.ofString "items") kt', .ref lst⟩] 1) :: (lst, listOf vs'.toArray n') :: off lst (off dx (off x n9)) := fun q hq => hsub' q (S9 q (hsub q hq))
    have z4 := natNe n1
    have z5 := natNe n2
    have z6 := natNe n3
    clear F N5
    k_steps
    have e1 : ((i : Int) + 1).toNat = i + 1 := by omega
    rw [e1] at *
    rename News _ _ _ _ => N6
    have Dd := items_drop (i + 1) D'
    have hdl : (vs'.drop (i + 1)).length = (st.drop (i + 1)).length := by rw [Dd.length, List.length_map]
    refine CompSrcT.ledger (by rfl) (by k_asm) N6 (List.mem_cons_self ..) (by rw [List.size_toArray, List.length_drop, sizeLine_eq]; omega) ?_
    intro g
    refine comp_ind (n := (vs'.drop (i + 1)).toArray.size) (fun c ys nw => (∀ q ∈ _, q ∈ nw) ∧ DatAll nw ys ((keptOf ((st.drop (i + 1)).take c)).map itemD)) ?_ ?_ _ 0 [] _ (Nat.zero_add _) ⟨fun q hq => hq, .nil⟩
    · rintro c ys nw hc ⟨j1, j2⟩ v I oI C oC D m₂ h tk E' hv hC hx F2 N2 off2 ne2
      rw [List.size_toArray, hdl] at hc
      have hrow : (st.drop (i + 1))[c]? = some ((st.drop (i + 1))[c].1, (st.drop (i + 1))[c].2) := List.getElem?_eq_getElem hc
      obtain ⟨tp, ntp, t1, t2, hv', htp⟩ := row_at Dd hrow
      obtain rfl : v = .ref tp := by
        have : (vs'.drop (i + 1))[c]? = some v := by simpa using hv
        rw [Int.toNat_natCast, this] at hv'
        exact Option.some.inj hv'
      have hstep := kept_succ hrow
      generalize (st.drop (i + 1))[c].1 = j0 at *
      generalize (st.drop (i + 1))[c].2 = k0 at *
      replace htp := j1 _ (List.mem_cons_of_mem _ (hsub' _ htp))
      have hS := j1 _ (List.mem_cons_self ..)
      clear hv hv' hrow
      cases k0
      all_goals (simp only [Kd.t] at *)
      case u =>
        k_steps
        exact CompEnd.intro (by assumption) (by assumption) nw (fun p hp => hp) off2 (.inr ⟨_, hS, rfl, _, rfl⟩) ⟨j1, by rw [hstep]; simpa [Kd.isU] using j2⟩
      all_goals k_steps
      all_goals exact CompEnd.intro (by assumption) (by assumption) nw (fun p hp => hp) off2 (.inr ⟨_, hS, rfl, _, rfl⟩) ⟨j1, by rw [hstep, List.map_append]; exact j2.append (.one (item_mk htp))⟩
    · rintro ys nw ⟨j1, j2⟩ D h tk F2 N2 off2
      rw [List.size_toArray, hdl, List.take_of_length_le (Nat.le_refl _)] at j2
      have hyl : ys.length ≤ 64 := by
        have := j2.length
        rw [List.length_map] at this
        have h2 : (keptOf (st.drop (i + 1))).length ≤ (st.drop (i + 1)).length := List.length_filter_le ..
        rw [List.length_drop] at h2
        omega
      have m1 := j1 _ (List.mem_cons_of_mem _ (List.mem_cons_self ..))
      have m2 := j1 _ (List.mem_cons_of_mem _ (List.mem_cons_of_mem _ (List.mem_cons_self ..)))
      have m3 := j1 _ (List.mem_cons_of_mem _ (List.mem_cons_of_mem _ (List.mem_cons_of_mem _ (List.mem_cons_self ..))))
      have hcov := cover3 (news_sub N2 fun p hp => List.mem_cons_of_mem _ hp) m1 m2 m3
      have hD1 : @Ne Nat x D := off1_mem off2 _ m1
      have hD2 : @Ne Nat dx D := off1_mem off2 _ m2
      have hD3 : @Ne Nat lst D := off1_mem off2 _ m3
      have hall2 : ∀ q ∈ news, q ∈ nw := fun q hq => j1 q (List.mem_cons_of_mem _ (hall q hq))
      have N7 : News _ _ _ ((D, listOf ys.toArray ys.length) :: (x, instObj 104 dx) :: (dx, dictOf [⟨hh', .str (Str.ofString "items") kt', .ref lst⟩] 1) :: (lst, listOf vs'.toArray n') :: off lst (off dx (off x nw))) := news_sub N2 fun p hp => by
        simp only [List.mem_cons] at hp ⊢
        rcases hp with rfl | rfl | rfl | rfl | hp
        · exact .inl rfl
        · exact .inr m1
        · exact .inr m2
        · exact .inr m3
        · exact .inr (mem_off.mp (mem_off.mp (mem_off.mp hp).1).1).1
      clear N2 N6
      k_steps
      rename News h₀ _ _ _ => N8
      rename Fr h₀ _ _ _ => F8
      rename _ ∧ _ ∧ _ ∧ _ ∧ _ ∧ AllLt _ _ => l1
      refine hret _ _ _ _ (by assumption) N8 ⟨rfl, ⟨i, k, _, hi, ⟨by k_mem, ⟨_, _, by k_mem⟩, ⟨_, _, by k_mem, ?_⟩⟩, fun q hq e => ?_⟩, fun q hq hqd => ?_⟩
      · rw [List.map_append, e1]
        refine DatAll.append (items_mono (fun a us n hm => ?_) (items_take (i + 1) D')) (items_mono (fun a us n hm => ?_) j2)
        · have := hcov _ (j1 _ (List.mem_cons_of_mem _ (hsub' _ hm)))
          simp only [List.mem_cons] at this
          rcases this with h | h | h | h
          · have := congrArg (fun p => p.2.cls) h; cases this
          · have := congrArg (fun p => p.2.cls) h; exact absurd (Value.type.inj this) (by decide)
          · have := congrArg (fun p => p.2.cls) h; exact absurd (Value.type.inj this) (by decide)
          · k_mem
        · have := hcov _ hm
          simp only [List.mem_cons] at this
          rcases this with h | h | h | h
          · have := congrArg (fun p => p.2.cls) h; cases this
          · have := congrArg (fun p => p.2.cls) h; exact absurd (Value.type.inj this) (by decide)
          · have := congrArg (fun p => p.2.cls) h; exact absurd (Value.type.inj this) (by decide)
          · k_mem
      · have := hcov _ (hall2 q hq)
        simp only [List.mem_cons] at this
        rcases this with h | h | h | h
        · rw [h] at e; exact absurd e (Nat.ne_of_lt l1.2.2.1)
        · rw [h] at e; exact absurd e (Nat.ne_of_lt l1.2.2.2.1)
        · rw [h] at e; exact absurd e (Nat.ne_of_lt l1.2.2.2.2.1)
        · exact absurd e (Nat.ne_of_lt (allLt_mem l1.2.2.2.2.2 q h))
      · have := hcov _ (hall2 q hq)
        simp only [List.mem_cons] at this
        rcases this with h | h | h | h
        · rw [h]; k_mem
        · exact absurd (congrArg Prod.fst h) hqd
        · rw [h]; k_mem
        · k_mem
  · intro hn e dx9 d g9 n9 h9 tk9 FG9 R U S9 D9 fd
    exact leave_onX BX FG9 R U (fun h' R' U' => herr (fun p hp e' => hn p hp (by rw [e'])) e dx9 d _ n9 h' tk9 FG R' U' (fun q hq => S9 q (hsub q hq)) D9 fd)
end
end
section
theorem freshNzPush : True := by
  w_top off
  exact trivial
open PySem PySem.W PyProof.Rows
section
local macro_rules | `(tactic| walk_at "exec Raise some none") => `(tactic| walk_at "nz 7")
theorem nz_append {prog : Program} {w : World} {A : Around} {E : Value → Shared → Prop} {s : Shared} {h₀ : Heap} {L D : Addr} {m : Str → Option Value} {news news' : List (Addr × Obj)} {us : List Value} {n : Nat} {x : Value} {Q : Value → Shared → Prop} (F : Fr h₀ L s.heap m) (N : News h₀ L s.heap news)
    (U : Upd D (listOf us.toArray n) (listOf (us ++ [x]).toArray (n + 1)) news news') (h : ∀ h', Fr h₀ L h' m → News h₀ L h' news' → Q .none { s with heap := h' }) (hsz : us.length ≤ 200) : wpAny (model prog w) A (call (.builtin "list.append") [.ref D, x]) Q E s :=
  append_K F N (by rw [List.push_toArray]; exact U) h (by rw [List.size_toArray, sizeLine_eq]; omega)
local macro_rules | `(tactic| walk_at "call builtin:list.append") => `(tactic| (k_here; (with_reducible show wpAny _ _ (call (Value.builtin _) [Value.ref _, _]) _ _ _); k_dflt (refine' nz_append ?k1 ?k2 ?k3 ?_ ?z; (case k1 => k_asm); (case k2 => k_asm); (case k3 => k_upd); (case z => omega)); intro h' F' N'))
def Uniq (st : List (Nat × Kd)) : Prop := ∀ (i j : Nat) (p q : Nat × Kd), st[i]? = some p → st[j]? = some q → p.1 = q.1 → i = j
/-- what a push leaves -/
def pushSt (st : List (Nat × Kd)) (i parent fresh : Nat) (kd : Kd) : List (Nat × Kd) :=
  (if kd.isU then st.take i ++ [(parent, .u)] else st.take (i + 1) ++ keptOf (st.drop (i + 1))) ++ [(fresh, kd)]
set_option maxRecDepth 100000 in
set_option maxHeartbeats 8000000 in
theorem push_spec (w : World) (news : List (Addr × Obj)) (x dx lst : Addr) (st : List (Nat × Kd)) (parent fresh : Nat) (kd : Kd) (pt ft kdt : Tok) (S : StackIn news x dx lst st) (hsz : st.length ≤ 64) (hun : Uniq st) :
    CallX PySem.Challenge.rw_nz0124_01.row.prog w (Nz.hd.heap_39 w.params) Nz.hd.view_39 (looseW Nz.hd.view_39 [Str.ofString "LendError"]) 101 [.ref x, .int (parent : Int) pt, .int (fresh : Int) ft, .str kd.t kdt] 72 480 news
      (fun v news' => v = .none ∧ (∃ (i : Nat) (k : Kd) (lst' : Addr), st[i]? = some (parent, k) ∧ (kd = .s ∨ k ≠ .s) ∧ StackIn news' x dx lst' (pushSt st i parent fresh kd) ∧ ∀ q ∈ news, q.1 ≠ lst') ∧ ∀ q ∈ news, q.1 ≠ dx → q ∈ news')
      ((∀ p ∈ st, p.1 ≠ parent) ∨ (kd ≠ .s ∧ ∃ p ∈ st, p = (parent, .s))) := by
  unfold CallX
  k_fill
  intro mean mg mb dp un gd cn cs ad ccd cl outer A₀ base h₀ L m s Q E B F X N0 T hk hd hu hret herr
  obtain ⟨hh, kt, vs, n, N, D, hdx, hlst, n1, n2, n3, hsub⟩ := S.front N0
  have z4 := natNe n1
  have z5 := natNe n2
  have z6 := natNe n3
  clear N0
  cases kd
  all_goals (simp only [Kd.t] at *; refine wpAny_call ?_; k_dflt ktr_enter; k_steps)
  case u =>
    rename News _ _ _ _ => N5
    rename Below _ base _ _ => BX
    rename Fr h₀ L _ _ => FG
    refine CallX.use (write_spec w _ x dx lst st parent pt (S.sub hsub) hsz) (by k_asm) (by k_asm) (by k_asm) N5 (by k_asm) (by first | exact rfl | assumption) (by ktr_room) (by ktr_units) ?_ ?_
    · rintro r9 n9 h9 tk9 F9 N9 ⟨rfl, ⟨i, k, lst', hi, hks, S9, hoff⟩, K9⟩
      obtain ⟨hh', kt', vs', n', N10, D', hdx', hlst', m1, m2, m3, hsub'⟩ := S9.front N9
      have hvl : vs'.length ≤ 200 := by
        rw [D'.length, List.length_map, List.length_append, List.length_take, List.length_singleton]
        omega
      have z7 := natNe m1
      have z8 := natNe m2
      have z9 := natNe m3
      clear F N5
      k_steps
      rename News h₀ _ _ _ => N8
      rename Fr h₀ _ _ _ => F8
      refine hret _ _ _ _ (by assumption) N8 ⟨rfl, ⟨i, k, _, hi, .inr hks, ⟨by k_mem, ⟨_, _, by k_mem⟩, ⟨_, _, by k_mem, ?_⟩⟩, fun q hq => hoff q (hsub q hq)⟩, fun q hq hqd => ?_⟩
      · unfold pushSt
        rw [if_pos (show Kd.u.isU = true from rfl), List.map_append (l₂ := [(fresh, Kd.u)])]
        refine DatAll.append (items_mono (fun a us n hm => ?_) D') (.one (item_mk (by k_mem)))
        have := hsub' _ hm
        simp only [List.mem_cons] at this
        rcases this with h | h | h | h
        · have := congrArg (fun p => p.2.cls) h; cases this
        · have := congrArg (fun p => p.2.cls) h; exact absurd (Value.type.inj this) (by decide)
        · have := congrArg (fun p => p.2.cls) h; exact absurd (Value.type.inj this) (by decide)
        · k_mem
      · have := hsub' _ (K9 q (hsub q hq) hqd)
        simp only [List.mem_cons] at this
        rcases this with h | h | h | h
        · rw [h]; k_mem
        · exact absurd (congrArg Prod.fst h) hqd
        · exact absurd (congrArg Prod.fst h) (hoff q (hsub q hq))
        · k_mem
    · intro hn e dx9 d g9 n9 h9 tk9 FG9 R U S9 D9 fd
      exact leave_onX BX FG9 R U (fun h' R' U' => herr (hn.imp id fun h => ⟨nofun, h⟩) e dx9 d _ n9 h' tk9 FG R' U' (fun q hq => S9 q (hsub q hq)) D9 fd)
  case s =>
    rename News _ _ _ _ => N5
    rename Below _ base _ _ => BX
    rename Fr h₀ L _ _ => FG
    refine CallX.use (read_spec w _ x dx lst st parent pt (S.sub hsub) hsz) (by k_asm) (by k_asm) (by k_asm) N5 (by k_asm) (by first | exact rfl | assumption) (by ktr_room) (by ktr_units) ?_ ?_
    · rintro r9 n9 h9 tk9 F9 N9 ⟨rfl, ⟨i, k, lst', hi, S9, hoff⟩, K9⟩
      obtain ⟨hh', kt', vs', n', N10, D', hdx', hlst', m1, m2, m3, hsub'⟩ := S9.front N9
      have hvl : vs'.length ≤ 200 := by
        have h2 : (keptOf (st.drop (i + 1))).length ≤ (st.drop (i + 1)).length := List.length_filter_le ..
        rw [List.length_drop] at h2
        rw [D'.length, List.length_map, List.length_append, List.length_take]
        omega
      have z7 := natNe m1
      have z8 := natNe m2
      have z9 := natNe m3
      clear F N5
      k_steps
      rename News h₀ _ _ _ => N8
      rename Fr h₀ _ _ _ => F8
      refine hret _ _ _ _ (by assumption) N8 ⟨rfl, ⟨i, k, _, hi, (by simp), ⟨by k_mem, ⟨_, _, by k_mem⟩, ⟨_, _, by k_mem, ?_⟩⟩, fun q hq => hoff q (hsub q hq)⟩, fun q hq hqd => ?_⟩
      · unfold pushSt
        rw [if_neg (by decide), List.map_append (l₂ := [(fresh, Kd.s)])]
        refine DatAll.append (items_mono (fun a us n hm => ?_) D') (.one (item_mk (by k_mem)))
        have := hsub' _ hm
        simp only [List.mem_cons] at this
        rcases this with h | h | h | h
        · have := congrArg (fun p => p.2.cls) h; cases this
        · have := congrArg (fun p => p.2.cls) h; exact absurd (Value.type.inj this) (by decide)
        · have := congrArg (fun p => p.2.cls) h; exact absurd (Value.type.inj this) (by decide)
        · k_mem
      · have := hsub' _ (K9 q (hsub q hq) hqd)
        simp only [List.mem_cons] at this
        rcases this with h | h | h | h
        · rw [h]; k_mem
        · exact absurd (congrArg Prod.fst h) hqd
        · exact absurd (congrArg Prod.fst h) (hoff q (hsub q hq))
        · k_mem
    · intro hn e dx9 d g9 n9 h9 tk9 FG9 R U S9 D9 fd
      exact leave_onX BX FG9 R U (fun h' R' U' => herr (.inl hn) e dx9 d _ n9 h' tk9 FG R' U' (fun q hq => S9 q (hsub q hq)) D9 fd)
  case r =>
    rename News _ _ _ _ => N5
    rename Below _ base _ _ => BX
    rename Fr h₀ L _ _ => FG
    refine CallX.use (kind_spec w _ x dx lst st parent pt (S.sub hsub) hsz) (by k_asm) (by k_asm) (by k_asm) N5 (by k_asm) (by first | exact rfl | assumption) (by ktr_room) (by ktr_units) ?_ ?_
    · rintro r9 n8 h9 tk9 F9 N9 ⟨⟨i0, j0, k0, t0, hi0, hj0, rfl⟩, S8⟩
      obtain rfl : j0 = parent := by omega
      replace S8 : ∀ q ∈ news, q ∈ n8 := fun q hq => S8 q (hsub q hq)
      obtain ⟨hh, kt, vs, n, N10, D, hdx, hlst, -, -, -, hsub8⟩ := (S.sub S8).front N9
      replace hsub8 := fun q hq => hsub8 q (S8 q hq)
      clear F N5 N9
      by_cases hk0 : k0 = .s
      · subst hk0
        simp only [Kd.t] at *
        k_steps
        rename Frag.In _ _ => XX
        rename Top _ _ _ _ _ _ => TX
        rename Fr _ _ _ _ => F6
        rename News _ _ _ _ => N6
        refine raise_mf w BX F6 XX N6 TX rfl (by ktr_room) (by ktr_units) (by decide) fun e dx9 d n9 h9 tk9 R U S9 D9 fd => herr (.inr ⟨nofun, ⟨_, List.mem_of_getElem? hi0, rfl⟩⟩) e dx9 d _ n9 h9 tk9 FG R U (fun q hq => S9 q (hsub8 q hq)) D9 fd
      have hkk : k0 = .u ∨ k0 = .r := by cases k0 <;> simp at *
      have hgo : ∀ (i : Nat) (k : Kd), st[i]? = some (j0, k) → k ≠ .s := fun i k h => by
        have := hun _ _ _ _ hi0 h rfl
        subst this
        rw [hi0] at h
        cases h
        exact hk0
      clear hi0 hk0
      obtain rfl | rfl := hkk
      all_goals (simp only [Kd.t] at *; k_steps)
      all_goals (
        rename News _ _ _ _ => N5
        refine CallX.use (read_spec w _ x dx lst st j0 pt (S.sub hsub8) hsz) (by k_asm) (by k_asm) (by k_asm) N5 (by k_asm) (by first | exact rfl | assumption) (by ktr_room) (by ktr_units) ?_ ?_
        · rintro r9 n9 h9 tk9 F9 N9 ⟨rfl, ⟨i, k, lst', hi, S9, hoff⟩, K9⟩
          obtain ⟨hh', kt', vs', n', N10, D', hdx', hlst', m1, m2, m3, hsub'⟩ := S9.front N9
          have hvl : vs'.length ≤ 200 := by
            have h2 : (keptOf (st.drop (i + 1))).length ≤ (st.drop (i + 1)).length := List.length_filter_le ..
            rw [List.length_drop] at h2
            rw [D'.length, List.length_map, List.length_append, List.length_take]
            omega
          have z7 := natNe m1
          have z8 := natNe m2
          have z9 := natNe m3
          clear N5
          k_steps
          rename News h₀ _ _ _ => N8
          rename Fr h₀ _ _ _ => F8
          refine hret _ _ _ _ (by assumption) N8 ⟨rfl, ⟨i, k, _, hi, (by simp [hgo _ _ hi]), ⟨by k_mem, ⟨_, _, by k_mem⟩, ⟨_, _, by k_mem, ?_⟩⟩, fun q hq => hoff q (hsub8 q hq)⟩, fun q hq hqd => ?_⟩
          · unfold pushSt
            rw [if_neg (by decide), List.map_append (l₂ := [(fresh, Kd.r)])]
            refine DatAll.append (items_mono (fun a us n hm => ?_) D') (.one (item_mk (by k_mem)))
            have := hsub' _ hm
            simp only [List.mem_cons] at this
            rcases this with h | h | h | h
            · have := congrArg (fun p => p.2.cls) h; cases this
            · have := congrArg (fun p => p.2.cls) h; exact absurd (Value.type.inj this) (by decide)
            · have := congrArg (fun p => p.2.cls) h; exact absurd (Value.type.inj this) (by decide)
            · k_mem
          · have := hsub' _ (K9 q (hsub8 q hq) hqd)
            simp only [List.mem_cons] at this
            rcases this with h | h | h | h
            · rw [h]; k_mem
            · exact absurd (congrArg Prod.fst h) hqd
            · exact absurd (congrArg Prod.fst h) (hoff q (hsub8 q hq))
            · k_mem
        · intro hn e dx9 d g9 n9 h9 tk9 FG9 R U S9 D9 fd
          exact leave_onX BX FG9 R U (fun h' R' U' => herr (.inl hn) e dx9 d _ n9 h' tk9 FG R' U' (fun q hq => S9 q (hsub8 q hq)) D9 fd))
    · intro hn e dx9 d g9 n9 h9 tk9 FG9 R U S9 D9 fd
      exact leave_onX BX FG9 R U (fun h' R' U' => herr (.inl fun p hp e' => hn p hp (by rw [e'])) e dx9 d _ n9 h' tk9 FG R' U' (fun q hq => S9 q (hsub q hq)) D9 fd)
end
end
section
theorem freshNzDo : True := by
  w_top off
  exact trivial
open PySem PySem.W PyProof.Rows
section
theorem get_exc_own {prog : Program} {w : World} {A : Around} {E : Value → Shared → Prop} {s : Shared} {K : Frag} {h₀ : Heap} {L : Addr} {m : Str → Option Value} {news : List (Addr × Obj)} {x C dx : Addr} {name : Str} {expr : Bool} {Q : Value → Shared → Prop} {vs : Array Value} {sl : Array (Option Value)} {es : List DictEntry} {n : Nat} {attr : Option Value} {v : Value}
    (F : Fr h₀ L s.heap m) (X₀ : K.In h₀) (N : News h₀ L s.heap news) (h1 : (x, (⟨.ref C, some dx, .fields vs, sl⟩ : Obj)) ∈ news) (h2 : (dx, dictOf es n) ∈ news)
    (hga : findIn K (.ref C) "__getattribute__" = some (some (.builtin "BaseException.__getattribute__"))) (hgh : findIn K (.ref C) "__getattr__" = some none) (hsub : mroIn K C (.type "BaseException") = some true)
    (hh : hasDictIn K C = true) (ha : findIn K (.ref C) name = some attr) (hn : noGet K attr = true) (hl : getL name es = some (some v)) (hv : handedIn v = true) (h : Q v { s with toks := s.toks + 1 }) :
    wpAny (model prog w) A (getAttr (.ref x) name expr) Q E s :=
  get_exc (X₀.keeps F.keep) (⟨(N _ h1).1, rfl, rfl, (N _ h2).1⟩ : InstAt s.heap x ⟨.ref C, some dx, .fields vs, sl⟩ C (some (dictOf es n))) hga hgh hsub (findObj_own hh ha hn hl) hv h

/-- the deed's effect on the stack where its row is the i-th -/
def stDo (st : List (Nat × Kd)) (wd : Wd) (i tag fresh : Nat) : List (Nat × Kd) := match wd with
  | .rd => st.take (i + 1) ++ keptOf (st.drop (i + 1))
  | .wr => st.take i ++ [(tag, .u)]
  | .un => pushSt st i tag fresh .u
  | .sh => pushSt st i tag fresh .s
  | .rs => pushSt st i tag fresh .r
def hurts (wd : Wd) : Prop := wd ≠ .rd ∧ wd ≠ .sh
def refused (st : List (Nat × Kd)) (wd : Wd) (tag : Nat) : Prop := (∀ p ∈ st, p.1 ≠ tag) ∨ (hurts wd ∧ ∃ p ∈ st, p = (tag, Kd.s))
/-- what a call of _law_do tells -/
def DoRet (news : List (Addr × Obj)) (x dx : Addr) (st : List (Nat × Kd)) (wd : Wd) (tag fresh : Nat) (v : Value) (news' : List (Addr × Obj)) : Prop :=
  (v = .bool true ∧ (∃ (i : Nat) (k : Kd) (lst' : Addr), st[i]? = some (tag, k) ∧ (hurts wd → k ≠ .s) ∧ StackIn news' x dx lst' (stDo st wd i tag fresh) ∧ ∀ q ∈ news, q.1 ≠ lst') ∧ ∀ q ∈ news, q.1 ≠ dx → q ∈ news') ∨
  (v = .bool false ∧ refused st wd tag ∧ ∀ q ∈ news, q ∈ news')

local macro_rules | `(tactic| walk_at "getAttr ref") => `(tactic| (k_here; k_dflt (refine' get_exc_own ?k1 ?k2 ?k3 ?k4 ?k5 ?k6 ?k7 ?k8 ?k9 ?k10 ?k11 ?k12 ?k13 ?_; (case k1 => k_asm); (case k2 => k_asm); (case k3 => k_asm); (case k4 => k_mem); (case k5 => k_mem); (case k6 => k_is); (case k7 => k_is); (case k8 => k_is); (case k9 => k_is); (case k10 => k_is); (case k11 => k_is); (case k12 => k_get); (case k13 => k_handed); k_whole)))
set_option maxRecDepth 100000 in
set_option maxHeartbeats 8000000 in
theorem do_spec (w : World) (news : List (Addr × Obj)) (x dx lst : Addr) (st : List (Nat × Kd)) (wd : Wd) (tag fresh : Nat) (wt tt ft : Tok) (S : StackIn news x dx lst st) (hsz : st.length ≤ 64) (hun : Uniq st)
    {mean : ExcName → Option Value} {mg mb : Str → Option Value} {dp un : Nat} {gd : Option (List Code)} {cn : Str} {cs : Scope} {ad : Addr} {ccd : Value}
    {A₀ : Around} {base h₀ : Heap} {L : Addr} {m : Str → Option Value} {s : Shared} {Q E : Value → Shared → Prop}
    (B : Below A₀ base [] h₀) (F : Fr h₀ L s.heap m) (X : (Nz.hd.heap_39 w.params).In h₀) (N0 : News h₀ L s.heap news) (T : Top Nz.hd.view_39 (looseW Nz.hd.view_39 [Str.ofString "LendError"]) mean mg mb h₀)
    (XB : (Nz.hd.heap_39 w.params).In base) (TB : Top Nz.hd.view_39 (looseW Nz.hd.view_39 [Str.ofString "LendError"]) mean mg mb base) (hk : cs.kind = .function) (hd : dp + 100 < recursionLimit) (hu : un + 600 < cLine)
    (hret : ∀ r news' h' tk', Fr h₀ L h' m → News h₀ L h' news' → DoRet news x dx st wd tag fresh r news' → Q r { s with heap := h', toks := tk' }) :
    wpAny (model PySem.Challenge.rw_nz0124_01.row.prog w) (ktrTop dp un gd cn cs L ad ccd [] []) (call (.ref 164) [.ref x, .str wd.t wt, .int (tag : Int) tt, .int (fresh : Int) ft]) Q E s := by
  revert B F X N0 T XB TB hk hd hu hret
  k_fill
  intro B F X N0 T XB TB hk hd hu hret
  obtain ⟨hh, kt, vs, n, N, D, hdx, hlst, n1, n2, n3, hsub⟩ := S.front N0
  clear N0
  refine wpAny_call ?_
  k_dflt (refine' code_defS0 ?k1 ?k2 ?k3 ?k4 ?k5 ?kA ?k6 ?k7 ?k8 ?k9 ?kB ?_ ?cK ?c2 ?c3 ?c4 ?c5; (case kA => exact rfl); (case k2 => k_asm); (case k1 => k_asm); (case k3 => k_asm); (case k4 => k_asm); (case k5 => k_asm); (case k6 => k_is); (case k7 => k_is); (case k8 => ktr_room); (case k9 => exact BindsTo.of_eq rfl); (case kB => exact locs rfl); (case cK => assumption); (case c2 => exact rfl); (case c3 => exact rfl); (case c4 => exact rfl); (case c5 => decide); k_whole; intro g' L' h' FG' F' N' B' X' T' D'; (try dsimp only); (try k_fold))
  rename Below _ base [_] _ => BX
  cases wd
  all_goals (simp only [Wd.t] at *)
  case rd =>
    k_steps
    rename News _ _ _ _ => N5
    refine CallX.use (read_spec w _ x dx lst st tag tt (S.sub hsub) hsz) (by k_asm) (by k_asm) (by k_asm) N5 (by k_asm) (by first | exact rfl | assumption) (by ktr_room) (by ktr_units) ?_ ?_
    · rintro r9 n9 h9 tk9 F9 N9 ⟨rfl, ⟨i, k, lst', hi, S9, hoff⟩, K9⟩
      clear F N5
      k_steps
      rename News h₀ _ _ _ => N8
      exact hret _ _ _ _ (by assumption) N8 (.inl ⟨rfl, ⟨i, k, lst', hi, fun h => absurd rfl h.1, S9, fun q hq => hoff q (hsub q hq)⟩, fun q hq hqd => K9 q (hsub q hq) hqd⟩)
    · intro hn e dx9 d g9 n9 h9 tk9 FG9 R U S9 D9 fd
      refine caught_X R FG9 BX U XB TB KtsTurn.refl (by k_is) (by kts_isx) ?_
      rintro h4 g4 ⟨oc, odd, odat, osl⟩ vs4 tk4 T4 F4 rfl rfl rfl N4 hsame4 B4 X4 P4
      obtain ⟨h1, h2, h3, k1, k2, k3, fmsg, fmt, fst, fkt, rfl⟩ := fd
      clear F N5
      k_steps
      rename News h₀ _ _ _ => N8
      exact hret _ _ _ _ (by assumption) N8 (.inr ⟨congrArg Value.bool (by decide), .inl hn, fun q hq => List.mem_cons_of_mem _ (S9 q (hsub q hq))⟩)
  case wr =>
    k_steps
    rename News _ _ _ _ => N5
    refine CallX.use (write_spec w _ x dx lst st tag tt (S.sub hsub) hsz) (by k_asm) (by k_asm) (by k_asm) N5 (by k_asm) (by first | exact rfl | assumption) (by ktr_room) (by ktr_units) ?_ ?_
    · rintro r9 n9 h9 tk9 F9 N9 ⟨rfl, ⟨i, k, lst', hi, hks, S9, hoff⟩, K9⟩
      clear F N5
      k_steps
      rename News h₀ _ _ _ => N8
      exact hret _ _ _ _ (by assumption) N8 (.inl ⟨rfl, ⟨i, k, lst', hi, fun _ => hks, S9, fun q hq => hoff q (hsub q hq)⟩, fun q hq hqd => K9 q (hsub q hq) hqd⟩)
    · intro hn e dx9 d g9 n9 h9 tk9 FG9 R U S9 D9 fd
      refine caught_X R FG9 BX U XB TB KtsTurn.refl (by k_is) (by kts_isx) ?_
      rintro h4 g4 ⟨oc, odd, odat, osl⟩ vs4 tk4 T4 F4 rfl rfl rfl N4 hsame4 B4 X4 P4
      obtain ⟨h1, h2, h3, k1, k2, k3, fmsg, fmt, fst, fkt, rfl⟩ := fd
      clear F N5
      k_steps
      rename News h₀ _ _ _ => N8
      exact hret _ _ _ _ (by assumption) N8 (.inr ⟨congrArg Value.bool (by decide), hn.imp id fun h => ⟨⟨nofun, nofun⟩, h⟩, fun q hq => List.mem_cons_of_mem _ (S9 q (hsub q hq))⟩)
  case un =>
    k_steps
    rename News _ _ _ _ => N5
    refine CallX.use (push_spec w _ x dx lst st tag fresh .u tt ft wt (S.sub hsub) hsz hun) (by k_asm) (by k_asm) (by k_asm) N5 (by k_asm) (by first | exact rfl | assumption) (by ktr_room) (by ktr_units) ?_ ?_
    · rintro r9 n9 h9 tk9 F9 N9 ⟨rfl, ⟨i, k, lst', hi, hks, S9, hoff⟩, K9⟩
      clear F N5
      k_steps
      rename News h₀ _ _ _ => N8
      exact hret _ _ _ _ (by assumption) N8 (.inl ⟨rfl, ⟨i, k, lst', hi, fun _ => hks.resolve_left nofun, S9, fun q hq => hoff q (hsub q hq)⟩, fun q hq hqd => K9 q (hsub q hq) hqd⟩)
    · intro hn e dx9 d g9 n9 h9 tk9 FG9 R U S9 D9 fd
      refine caught_X R FG9 BX U XB TB KtsTurn.refl (by k_is) (by kts_isx) ?_
      rintro h4 g4 ⟨oc, odd, odat, osl⟩ vs4 tk4 T4 F4 rfl rfl rfl N4 hsame4 B4 X4 P4
      obtain ⟨h1, h2, h3, k1, k2, k3, fmsg, fmt, fst, fkt, rfl⟩ := fd
      clear F N5
      k_steps
      rename News h₀ _ _ _ => N8
      exact hret _ _ _ _ (by assumption) N8 (.inr ⟨congrArg Value.bool (by decide), hn.imp id fun h => ⟨⟨nofun, nofun⟩, h.2⟩, fun q hq => List.mem_cons_of_mem _ (S9 q (hsub q hq))⟩)
  case sh =>
    k_steps
    rename News _ _ _ _ => N5
    refine CallX.use (push_spec w _ x dx lst st tag fresh .s tt ft wt (S.sub hsub) hsz hun) (by k_asm) (by k_asm) (by k_asm) N5 (by k_asm) (by first | exact rfl | assumption) (by ktr_room) (by ktr_units) ?_ ?_
    · rintro r9 n9 h9 tk9 F9 N9 ⟨rfl, ⟨i, k, lst', hi, hks, S9, hoff⟩, K9⟩
      clear F N5
      k_steps
      rename News h₀ _ _ _ => N8
      exact hret _ _ _ _ (by assumption) N8 (.inl ⟨rfl, ⟨i, k, lst', hi, fun h => absurd rfl h.2, S9, fun q hq => hoff q (hsub q hq)⟩, fun q hq hqd => K9 q (hsub q hq) hqd⟩)
    · intro hn e dx9 d g9 n9 h9 tk9 FG9 R U S9 D9 fd
      refine caught_X R FG9 BX U XB TB KtsTurn.refl (by k_is) (by kts_isx) ?_
      rintro h4 g4 ⟨oc, odd, odat, osl⟩ vs4 tk4 T4 F4 rfl rfl rfl N4 hsame4 B4 X4 P4
      obtain ⟨h1, h2, h3, k1, k2, k3, fmsg, fmt, fst, fkt, rfl⟩ := fd
      clear F N5
      k_steps
      rename News h₀ _ _ _ => N8
      exact hret _ _ _ _ (by assumption) N8 (.inr ⟨congrArg Value.bool (by decide), hn.imp id fun h => absurd rfl h.1, fun q hq => List.mem_cons_of_mem _ (S9 q (hsub q hq))⟩)
  case rs =>
    k_steps
    rename News _ _ _ _ => N5
    refine CallX.use (push_spec w _ x dx lst st tag fresh .r tt ft wt (S.sub hsub) hsz hun) (by k_asm) (by k_asm) (by k_asm) N5 (by k_asm) (by first | exact rfl | assumption) (by ktr_room) (by ktr_units) ?_ ?_
    · rintro r9 n9 h9 tk9 F9 N9 ⟨rfl, ⟨i, k, lst', hi, hks, S9, hoff⟩, K9⟩
      clear F N5
      k_steps
      rename News h₀ _ _ _ => N8
      exact hret _ _ _ _ (by assumption) N8 (.inl ⟨rfl, ⟨i, k, lst', hi, fun _ => hks.resolve_left nofun, S9, fun q hq => hoff q (hsub q hq)⟩, fun q hq hqd => K9 q (hsub q hq) hqd⟩)
    · intro hn e dx9 d g9 n9 h9 tk9 FG9 R U S9 D9 fd
      refine caught_X R FG9 BX U XB TB KtsTurn.refl (by k_is) (by kts_isx) ?_
      rintro h4 g4 ⟨oc, odd, odat, osl⟩ vs4 tk4 T4 F4 rfl rfl rfl N4 hsame4 B4 X4 P4
      obtain ⟨h1, h2, h3, k1, k2, k3, fmsg, fmt, fst, fkt, rfl⟩ := fd
      clear F N5
      k_steps
      rename News h₀ _ _ _ => N8
      exact hret _ _ _ _ (by assumption) N8 (.inr ⟨congrArg Value.bool (by decide), hn.imp id fun h => ⟨⟨nofun, nofun⟩, h.2⟩, fun q hq => List.mem_cons_of_mem _ (S9 q (hsub q hq))⟩)
end
end
section
open PySem PySem.W PyProof.Rows
section
/-- the alive rows, told from the tag o on -/
def tellT : Nat → List (Kd × Bool) → List (Nat × Kd)
  | _, [] => []
  | o, (k, al) :: r => (if al then [(o, k)] else []) ++ tellT (o + 1) r
theorem tellT_eq : ∀ (l : List (Kd × Bool)) (o : Nat), (l.zipIdx o).filterMap (fun p => if p.1.2 then some (p.2, p.1.1) else none) = tellT o l
  | [], _ => rfl
  | (k, al) :: r, o => by
    rw [List.zipIdx_cons, List.filterMap_cons, tellT, tellT_eq r (o + 1)]
    cases al <;> rfl
theorem told_eq (rows : List (Kd × Bool)) : told rows = tellT 0 rows := by
  unfold told toldTo
  rw [List.take_of_length_le (Nat.le_refl _)]
  exact tellT_eq rows 0
theorem tellT_append : ∀ (a b : List (Kd × Bool)) (o : Nat), tellT o (a ++ b) = tellT o a ++ tellT (o + a.length) b
  | [], b, o => by simp [tellT]
  | (k, al) :: a, b, o => by
    rw [List.cons_append, tellT, tellT, tellT_append a b (o + 1), List.append_assoc, List.length_cons]
    congr 3
    omega
theorem tellT_mem : ∀ {l : List (Kd × Bool)} {o : Nat} {p : Nat × Kd}, p ∈ tellT o l ↔ o ≤ p.1 ∧ l[p.1 - o]? = some (p.2, true)
  | [], o, p => by simp [tellT]
  | (k, al) :: r, o, (j, q) => by
    rw [tellT, List.mem_append, tellT_mem]
    have key : (o + 1 ≤ j ∧ r[j - (o + 1)]? = some (q, true)) ↔ (o < j ∧ ((k, al) :: r)[j - o]? = some (q, true)) := by
      constructor
      · rintro ⟨h1, h2⟩
        refine ⟨h1, ?_⟩
        rw [show j - o = (j - (o + 1)) + 1 by omega, List.getElem?_cons_succ]
        exact h2
      · rintro ⟨h1, h2⟩
        rw [show j - o = (j - (o + 1)) + 1 by omega, List.getElem?_cons_succ] at h2
        exact ⟨h1, h2⟩
    rw [key]
    constructor
    · rintro (h | ⟨h1, h2⟩)
      · cases al with
        | true =>
          have h : j = o ∧ q = k := by simpa using h
          obtain ⟨e1, e2⟩ := h
          subst e1; subst e2
          simp
        | false => simp at h
      · exact ⟨by omega, h2⟩
    · rintro ⟨h1, h2⟩
      by_cases e : j = o
      · subst e
        left
        rw [Nat.sub_self, List.getElem?_cons_zero] at h2
        cases h2
        simp
      · exact .inr ⟨by omega, h2⟩
theorem tellT_len : ∀ (l : List (Kd × Bool)) (o : Nat), (tellT o l).length ≤ l.length
  | [], _ => Nat.le_refl _
  | (k, al) :: r, o => by
    rw [tellT, List.length_append, List.length_cons]
    have := tellT_len r (o + 1)
    cases al <;> simp <;> omega
theorem tellT_uniq : ∀ (l : List (Kd × Bool)) (o : Nat), Uniq (tellT o l)
  | [], _ => fun i j p q h => by simp [tellT] at h
  | (k, false) :: r, o => by rw [tellT]; exact tellT_uniq r (o + 1)
  | (k, true) :: r, o => by
    intro i j p q hi hj e
    rw [tellT] at hi hj
    simp only [if_true, List.singleton_append] at hi hj
    have far : ∀ {n : Nat} {p : Nat × Kd}, (tellT (o + 1) r)[n]? = some p → o < p.1 := fun h => (tellT_mem.mp (List.mem_of_getElem? h)).1
    cases i with
    | zero =>
      cases j with
      | zero => rfl
      | succ j =>
        rw [List.getElem?_cons_zero] at hi
        rw [List.getElem?_cons_succ] at hj
        cases hi
        have := far hj
        simp only at e
        omega
    | succ i =>
      cases j with
      | zero =>
        rw [List.getElem?_cons_zero] at hj
        rw [List.getElem?_cons_succ] at hi
        cases hj
        have := far hi
        simp only at e
        omega
      | succ j =>
        rw [List.getElem?_cons_succ] at hi hj
        exact congrArg (· + 1) (tellT_uniq r (o + 1) i j p q hi hj e)
theorem told_uniq (rows : List (Kd × Bool)) : Uniq (told rows) := by rw [told_eq]; exact tellT_uniq rows 0
theorem told_len (rows : List (Kd × Bool)) : (told rows).length ≤ rows.length := by rw [told_eq]; exact tellT_len rows 0
theorem told_mem {rows : List (Kd × Bool)} {tag : Nat} {k : Kd} : (tag, k) ∈ told rows ↔ rows[tag]? = some (k, true) := by
  rw [told_eq, tellT_mem]; simp
/-- the rows above the tag o - 1 after an end -/
theorem tell_ended (tag : Int) (full : Bool) : ∀ (l : List (Kd × Bool)) (o : Nat), tag < (o : Int) → tellT o (l.mapIdx fun i row => endRow tag full (o + i) row) = if full then [] else keptOf (tellT o l)
  | [], o, _ => by cases full <;> rfl
  | (k, al) :: r, o, h => by
    have ih := tell_ended tag full r (o + 1) (by omega)
    rw [List.mapIdx_cons]
    have e : (fun (i : Nat) row => endRow tag full (o + (i + 1)) row) = fun i row => endRow tag full (o + 1 + i) row := by
      funext i row
      rw [show o + (i + 1) = o + 1 + i by omega]
    rw [e]
    have hr : endRow tag full (o + 0) (k, al) = if al = true ∧ (full = true ∨ k.isU = true) then (k, false) else (k, al) := by
      unfold endRow
      by_cases hc : al = true ∧ (full = true ∨ k.isU = true)
      · rw [if_pos ⟨h, hc⟩, if_pos hc]
      · rw [if_neg (fun q => hc q.2), if_neg hc]
    rw [hr]
    cases full with
    | true =>
      simp only [true_or, and_true, if_true] at ih ⊢
      cases al
      · rw [if_neg (by simp), tellT, ih]; simp
      · rw [if_pos rfl, tellT, ih]; simp
    | false =>
      simp only [Bool.false_eq_true, false_or, if_false] at ih ⊢
      unfold keptOf at ih ⊢
      cases al
      · rw [if_neg (by simp), tellT, ih, tellT]; simp
      · cases k
        · rw [if_pos ⟨rfl, rfl⟩, tellT, ih, tellT]; simp [Kd.isU]
        · rw [if_neg (by simp [Kd.isU]), tellT, ih, tellT]; simp [Kd.isU]
        · rw [if_neg (by simp [Kd.isU]), tellT, ih, tellT]; simp [Kd.isU]
theorem low_same (tag : Int) (full : Bool) : ∀ (l : List (Kd × Bool)), (l.length : Int) ≤ tag + 1 → (l.mapIdx fun i row => endRow tag full i row) = l := fun l h => by
  refine List.ext_getElem? fun j => ?_
  rw [List.getElem?_mapIdx]
  cases hj : l[j]? with
  | none => rfl
  | some row =>
    have := (List.getElem?_eq_some_iff.mp hj).1
    rw [Option.map_some]
    congr 1
    unfold endRow
    rw [if_neg (fun q => by omega)]
theorem endTo_all {tag : Int} {full : Bool} {rows : List (Kd × Bool)} : endTo tag full rows.length rows = rows.mapIdx fun i row => endRow tag full i row := by
  unfold endTo
  refine List.ext_getElem? fun j => ?_
  rw [List.getElem?_mapIdx, List.getElem?_mapIdx]
  cases hj : rows[j]? with
  | none => rfl
  | some row =>
    have := (List.getElem?_eq_some_iff.mp hj).1
    rw [Option.map_some, Option.map_some, if_pos this]
theorem split_at {rows : List (Kd × Bool)} {tag : Nat} {r : Kd × Bool} (h : rows[tag]? = some r) : ∃ a b, rows = a ++ r :: b ∧ a.length = tag := by
  obtain ⟨hlt, he⟩ := List.getElem?_eq_some_iff.mp h
  refine ⟨rows.take tag, rows.drop (tag + 1), ?_, by rw [List.length_take]; omega⟩
  rw [← he, List.getElem_cons_drop, List.take_append_drop]
theorem end_split {a b : List (Kd × Bool)} {k : Kd} {full : Bool} : endTo (a.length : Int) full (a ++ (k, true) :: b).length (a ++ (k, true) :: b) = a ++ (k, true) :: b.mapIdx fun i row => endRow (a.length : Int) full (a.length + 1 + i) row := by
  rw [endTo_all, List.mapIdx_append, low_same _ _ _ (by omega), List.mapIdx_cons]
  congr 1
  congr 1
  · unfold endRow
    rw [if_neg (fun q => by have := q.1; omega)]
  · congr 1
    funext i row
    rw [show i + 1 + a.length = a.length + 1 + i by omega]
theorem told_split {a b : List (Kd × Bool)} {k : Kd} : told (a ++ (k, true) :: b) = tellT 0 a ++ (a.length, k) :: tellT (a.length + 1) b := by
  rw [told_eq, tellT_append, Nat.zero_add, tellT]
  simp
theorem told_push (rows : List (Kd × Bool)) (k : Kd) : told (rows ++ [(k, true)]) = told rows ++ [(rows.length, k)] := by
  rw [told_eq, told_eq, tellT_append, Nat.zero_add]
  simp [tellT]
/-- what is left on the stack is what the record tells -/
theorem done_told {rows : List (Kd × Bool)} {wd : Wd} {tag i : Nat} {k : Kd} (h : (told rows)[i]? = some (tag, k)) : told (doneRows rows wd (tag : Int)) = stDo (told rows) wd i tag rows.length := by
  have hr := told_mem.mp (List.mem_of_getElem? h)
  obtain ⟨a, b, rfl, rfl⟩ := split_at hr
  have hi : i = (tellT 0 a).length := told_uniq _ i _ _ (a.length, k) h (by rw [told_split, List.getElem?_append_right (Nat.le_refl _), Nat.sub_self, List.getElem?_cons_zero]) rfl
  subst hi
  have t1 : (told (a ++ (k, true) :: b)).take (tellT 0 a).length = tellT 0 a := by rw [told_split, List.take_left]
  have t2 : (told (a ++ (k, true) :: b)).take ((tellT 0 a).length + 1) = tellT 0 a ++ [(a.length, k)] := by
    rw [told_split, List.take_append, List.take_of_length_le (by omega)]
    simp
  have t3 : (told (a ++ (k, true) :: b)).drop ((tellT 0 a).length + 1) = tellT (a.length + 1) b := by
    rw [told_split, List.drop_append, List.drop_of_length_le (by omega)]
    simp
  have e1 : told (endTo (a.length : Int) true (a ++ (k, true) :: b).length (a ++ (k, true) :: b) |>.set a.length (Kd.u, true)) = tellT 0 a ++ [(a.length, Kd.u)] := by
    rw [end_split, List.set_append_right _ _ (Nat.le_refl _), Nat.sub_self, List.set_cons_zero, told_split, tell_ended _ _ _ _ (by omega)]
    simp
  have e2 : told (endTo (a.length : Int) false (a ++ (k, true) :: b).length (a ++ (k, true) :: b)) = tellT 0 a ++ [(a.length, k)] ++ keptOf (tellT (a.length + 1) b) := by
    rw [end_split, told_split, tell_ended _ _ _ _ (by omega)]
    simp
  have l1 : (endTo (a.length : Int) true (a ++ (k, true) :: b).length (a ++ (k, true) :: b) |>.set a.length (Kd.u, true)).length = (a ++ (k, true) :: b).length := by rw [List.length_set, endTo_len]
  have l2 : (endTo (a.length : Int) false (a ++ (k, true) :: b).length (a ++ (k, true) :: b)).length = (a ++ (k, true) :: b).length := endTo_len
  unfold doneRows
  cases wd
  · show told (endTo _ false _ _) = (told _).take _ ++ keptOf ((told _).drop _)
    rw [t2, t3, e2]
  · show told ((endTo _ true _ _).set _ _) = (told _).take _ ++ _
    rw [t1, Int.toNat_natCast, e1]
  · show told ((endTo _ true _ _).set _ _ ++ [(Kd.u, true)]) = _
    rw [told_push, Int.toNat_natCast, e1, l1]
    show _ = ((told _).take _ ++ _) ++ _
    rw [t1]
  · show told (endTo _ false _ _ ++ [(Kd.s, true)]) = ((told _).take _ ++ keptOf ((told _).drop _)) ++ _
    rw [told_push, e2, l2, t2, t3]
  · show told (endTo _ false _ _ ++ [(Kd.r, true)]) = ((told _).take _ ++ keptOf ((told _).drop _)) ++ _
    rw [told_push, e2, l2, t2, t3]
theorem done_len {rows : List (Kd × Bool)} {wd : Wd} {tag : Int} : (doneRows rows wd tag).length ≤ rows.length + 1 := by
  unfold doneRows
  have h := endTo_len (tag := tag) (full := wd.full) (rows := rows) (n := rows.length)
  cases wd <;> simp only [Wd.full, Wd.fresh, Bool.false_eq_true, if_false, if_true, List.length_append, List.length_set, List.length_singleton] at * <;> omega
theorem alive_iff {rows : List (Kd × Bool)} {tag : Nat} : aliveAt rows (tag : Int) = true ↔ ∃ k, (tag, k) ∈ told rows := by
  unfold aliveAt
  rw [if_neg (by omega), Int.toNat_natCast]
  constructor
  · intro h
    cases e : rows[tag]? with
    | none => rw [e] at h; cases h
    | some r =>
      obtain ⟨k, al⟩ := r
      rw [e] at h
      simp only at h
      subst h
      exact ⟨k, told_mem.mpr e⟩
  · rintro ⟨k, h⟩
    rw [told_mem.mp h]
theorem may_of_done {rows : List (Kd × Bool)} {wd : Wd} {tag i : Nat} {k : Kd} (h : (told rows)[i]? = some (tag, k)) (hk : hurts wd → k ≠ .s) : mayAt rows wd (tag : Int) = true := by
  have hm := List.mem_of_getElem? h
  unfold mayAt
  rw [alive_iff.mpr ⟨k, hm⟩, Bool.true_and]
  have hkk : kindAt rows (tag : Int) = k := by
    unfold kindAt
    rw [Int.toNat_natCast, told_mem.mp hm]
  rw [hkk]
  unfold hurts at hk
  cases wd <;> cases k <;> simp [Wd.soft, Kd.isS] at hk ⊢
theorem may_of_refused {rows : List (Kd × Bool)} {wd : Wd} {tag : Nat} (h : refused (told rows) wd tag) : mayAt rows wd (tag : Int) = false := by
  unfold mayAt
  rcases h with h | ⟨h1, p, h2, rfl⟩
  · have : aliveAt rows (tag : Int) = false := by
      cases e : aliveAt rows (tag : Int) with
      | false => rfl
      | true =>
        obtain ⟨k, hk⟩ := alive_iff.mp e
        exact absurd rfl (h _ hk)
    rw [this, Bool.false_and]
  · have hkk : kindAt rows (tag : Int) = .s := by
      unfold kindAt
      rw [Int.toNat_natCast, told_mem.mp h2]
    rw [hkk]
    obtain ⟨h3, h4⟩ := h1
    cases wd <;> simp [Wd.soft, Kd.isS] at h3 h4 ⊢
end
end
section
theorem freshNzPool : True := by
  w_top off
  exact trivial
open PySem PySem.W PyProof.Rows
section
theorem pool_a (c : Int) (d : Bool) : 0 ≤ (if -1 - c > c then -1 - c else c) * (if d = true then 1 else 0) := by
  refine Int.mul_nonneg ?_ ?_
  · split <;> omega
  · split <;> omega
theorem base_len {prog : Program} {w : World} {A : Around} {E : Value → Shared → Prop} {s : Shared} {h₀ : Heap} {L l : Addr} {m : Str → Option Value} {us : List Value} {n : Int} {Q : Value → Shared → Prop} (F : Fr h₀ L s.heap m) (hl : h₀.IsList l us.toArray) (hn : (us.length : Int) = n) (hfit : n < 64)
    (h : Q (.int n (s.toks + 1)) { s with toks := s.toks + 1 + 1 }) : wpAny (model prog w) A (call (.builtin "len") [.ref l]) Q E s := by
  subst hn
  have hl' := stays_list F.keep hl
  exact len_list hl' (by rw [List.size_toArray]; omega) (by rw [List.size_toArray]; exact h)
theorem base_item {prog : Program} {w : World} {A : Around} {E : Value → Shared → Prop} {s : Shared} {h₀ : Heap} {L l : Addr} {m : Str → Option Value} {value slice : Expr} {us : List Value} {k : Int} {u : Tok} {x : Value} {Q : Value → Shared → Prop}
    (F : Fr h₀ L s.heap m) (hl : h₀.IsList l us.toArray) (hv : us[k.toNat]? = some x) (h0 : 0 ≤ k) (hfit : k < 2 ^ 63) (h : Q x s)
    (hs : subscripted slice false (.ref l) (.int k u) = operate [.ref l, .int k u] (getItem (.ref l) (.int k u)) := by with_unfolding_all rfl) :
    wpAny (model prog w) A (subscriptTail value slice (.ref l) (.int k u)) Q E s := by
  have hl' := stays_list F.keep hl
  exact tail_any hl'.typeIs slot_list_getitem.lookup (wpAny_getItem_list hl' h0 hfit (by simpa using hv) h) hs
local macro_rules | `(tactic| walk_at "call builtin:len") => `(tactic| (k_here; (with_reducible show wpAny _ _ (call (Value.builtin "len") [Value.ref _]) _ _ _); k_dflt (refine' base_len ?k1 ?k2 ?k3 ?k4 ?_; (case k1 => k_asm); (case k2 => assumption); (case k3 => assumption); (case k4 => assumption); k_whole)))
local macro_rules | `(tactic| walk_at "subscriptTail") => `(tactic| (k_here; (with_reducible show wpAny _ _ (subscriptTail _ _ (Value.ref _) (Value.int _ _)) _ _ _); k_dflt (refine' base_item ?k1 ?k2 ?k3 ?k4 ?k5 ?_ ?k6; (case k1 => k_asm); (case k2 => assumption); (case k3 => assumption); (case k4 => decide); (case k5 => decide); (case k6 => with_unfolding_all rfl); k_whole)))
set_option maxRecDepth 100000 in
set_option maxHeartbeats 8000000 in
theorem pool_spec (w : World) (news : List (Addr × Obj)) (l : Addr) (vs : List Value) (ns : List Int) (kt : Tok) (hI : IntsAre vs ns) (hlen : vs.length ≤ 63)
    {mean : ExcName → Option Value} {mg mb : Str → Option Value} {dp un : Nat} {gd : Option (List Code)} {cn : Str} {cs : Scope} {ad : Addr} {ccd : Value} {cl : List (Str × Addr)} {outer : List Env}
    {A₀ : Around} {base h₀ : Heap} {L : Addr} {m : Str → Option Value} {s : Shared} {Q E : Value → Shared → Prop}
    (B : Below A₀ base outer h₀) (F : Fr h₀ L s.heap m) (X : (Nz.hd.heap_39 w.params).In h₀) (N : News h₀ L s.heap news) (T : Top Nz.hd.view_39 (looseW Nz.hd.view_39 [Str.ofString "LendError"]) mean mg mb h₀)
    (hl : h₀.IsList l vs.toArray) (hk : cs.kind = .function) (hd : dp + 32 < recursionLimit) (hu : un + 256 < cLine)
    (hret : ∀ r news' h' tk', Fr h₀ L h' m → News h₀ L h' news' → (∃ (src : Addr) (a b : Int) (ta tb : Tok), r = .ref src ∧ (src, listOf #[.int a ta, .int b tb] 0) ∈ news' ∧ 0 ≤ a ∧ 0 ≤ b ∧ b < 2147483647 ∧ ∀ q ∈ news, q ∈ news') → Q r { s with heap := h', toks := tk' }) :
    wpAny (model PySem.Challenge.rw_nz0124_01.row.prog w) (ktrTop dp un gd cn cs L ad ccd cl outer) (call (.ref 115) [.ref l, .int 0 kt]) Q E s := by
  revert B F X N T hl hk hd hu hret
  k_fill
  intro B F X N T hl hk hd hu hret
  obtain ⟨n9, hn9⟩ : ∃ n : Int, (vs.length : Int) = n := ⟨_, rfl⟩
  have hn64 : n9 < 64 := by omega
  have hn0 : 0 ≤ n9 := by omega
  refine wpAny_call ?_
  k_dflt ktr_enter
  rename Fr h₀ L _ _ => FG
  have hl9 := stays_list FG.keep hl
  k_steps
  all_goals (
    rename News h₀ _ _ _ => N6
    exact hret _ _ _ _ (by assumption) N6 ⟨_, _, _, _, _, rfl, List.mem_cons_self .., pool_a _ _, Int.fmod_nonneg_of_pos _ (by decide), Int.fmod_lt_of_pos _ (by decide), fun q hq => List.mem_cons_of_mem _ hq⟩)
end
end
section
open PySem PySem.W PyProof.Rows
section
def tup2 (x : Str) (t1 t2 : Tok) : Obj := { cls := .type "tuple", data := .seq #[Value.str x t1, Value.int 0 t2] }
/-- what holds between two turns of the law's loop -/
structure Inv (w : World) (news : List (Addr × Obj)) (src x dx r fst : Addr) (rows : List (Kd × Bool)) : Prop where
  src : ∃ (a b : Int) (ta tb : Tok) (n : Nat), (src, listOf #[.int a ta, .int b tb] n) ∈ news ∧ 0 ≤ a ∧ 0 ≤ b ∧ b < 2147483647
  stk : ∃ lst, StackIn news x dx lst (told rows)
  rcd : ∃ ds, RecIn w news r ds rows ∧ dx ∉ ds
  dxr : dx ≠ r
  frs : ∃ (D1 D2 D3 : Addr) (n : Nat) (t1 t2 t3 t4 t5 t6 : Tok), (fst, listOf #[.ref D1, .ref D2, .ref D3] n) ∈ news ∧ (D1, tup2 (Str.ofString "shared") t1 t2) ∈ news ∧ (D2, tup2 (Str.ofString "shared") t3 t4) ∈ news ∧ (D3, tup2 (Str.ofString "read") t5 t6) ∈ news
theorem StackIn.mono' {news news' : List (Addr × Obj)} {x dx lst : Addr} {st : List (Nat × Kd)} (S : StackIn news x dx lst st) (h1 : ∀ o, (x, o) ∈ news → (x, o) ∈ news') (h2 : ∀ o, (dx, o) ∈ news → (dx, o) ∈ news') (h3 : ∀ o, (lst, o) ∈ news → (lst, o) ∈ news')
    (h4 : ∀ a (us : List Value) n, (a, ({ cls := .type "tuple", data := .seq us.toArray n } : Obj)) ∈ news → (a, ({ cls := .type "tuple", data := .seq us.toArray n } : Obj)) ∈ news') : StackIn news' x dx lst st := by
  obtain ⟨o1, ⟨hh, kt, o2⟩, ⟨vs, n, o3, D⟩⟩ := S
  exact ⟨h1 _ o1, ⟨hh, kt, h2 _ o2⟩, ⟨vs, n, h3 _ o3, items_mono h4 D⟩⟩
theorem RecIn.mono' {w : World} {news news' : List (Addr × Obj)} {r : Addr} {ds : List Addr} {rows : List (Kd × Bool)} (R : RecIn w news r ds rows) (h1 : ∀ o, (r, o) ∈ news → (r, o) ∈ news') (h2 : ∀ d ∈ ds, ∀ o, (d, o) ∈ news → (d, o) ∈ news') : RecIn w news' r ds rows :=
  ⟨let ⟨ro, a, b⟩ := R.out; ⟨ro, h1 _ a, b⟩, R.len, R.nd, R.rnd, R.lo, fun i d k al e1 e2 => let ⟨o, t, m, q⟩ := R.inn i d k al e1 e2; ⟨o, t, h2 d (List.mem_of_getElem? e1) _ m, q⟩⟩
theorem Inv.sub {w : World} {news news' : List (Addr × Obj)} {src x dx r fst : Addr} {rows : List (Kd × Bool)} (I : Inv w news src x dx r fst rows) (hs : ∀ q ∈ news, q ∈ news') : Inv w news' src x dx r fst rows := by
  obtain ⟨⟨a, b, ta, tb, n, h1, h2⟩, ⟨lst, S⟩, ⟨ds, R, hd⟩, dxr, ⟨D1, D2, D3, m, t1, t2, t3, t4, t5, t6, f1, f2, f3, f4⟩⟩ := I
  exact ⟨⟨a, b, ta, tb, n, hs _ h1, h2⟩, ⟨lst, S.sub hs⟩, ⟨ds, R.sub hs, hd⟩, dxr, ⟨D1, D2, D3, m, t1, t2, t3, t4, t5, t6, hs _ f1, hs _ f2, hs _ f3, hs _ f4⟩⟩
theorem dict_data {prog : Program} {w : World} {K : Type} [DecidableEq K] {knd : KeyKind prog w K} {o : Obj} {kvs : List (K × Value)} (h : o.IsDictOf knd kvs) : ∃ es ep, o.data = .dict es ep := by
  obtain ⟨es, ep, -, hd, -⟩ := h
  exact ⟨es, ep, hd⟩
/-- an address that holds no dict is none of the record's -/
theorem RecIn.apart {w : World} {news : List (Addr × Obj)} {r : Addr} {ds : List Addr} {rows : List (Kd × Bool)} (R : RecIn w news r ds rows) {h₀ h : Heap} {L a : Addr} {o : Obj} (N : News h₀ L h news) (ha : (a, o) ∈ news) (ho : ∀ es ep, o.data ≠ .dict es ep) : a ∉ ds ∧ a ≠ r := by
  constructor
  · exact R.off_ds N ha fun o' k t al q e => by
      obtain ⟨es, ep, hd⟩ := dict_data q
      exact ho es ep (e ▸ hd)
  · obtain ⟨ro, h1, h2⟩ := R.out
    obtain ⟨es, ep, hd⟩ := dict_data h2
    exact news_ne N ha h1 fun e => ho es ep (e ▸ hd)
theorem items_refs {news : List (Addr × Obj)} : ∀ {st : List (Nat × Kd)} {vs : List Value}, DatAll news vs (st.map itemD) → ∀ (a : Int) (t : Tok) (us : List Value), vs ≠ .int a t :: us
  | [], _, h, _, _, _, e => by subst e; cases h
  | p :: st, _, h, _, _, _, e => by
    subst e
    cases h with
    | cons h1 r =>
      obtain ⟨tp, n, t1, t2, e, -⟩ := item_inv h1
      cases e
/-- a step that changes the source alone -/
theorem Inv.srcStep {w : World} {news news' : List (Addr × Obj)} {src x dx r fst : Addr} {rows : List (Kd × Bool)} (I : Inv w news src x dx r fst rows) {h₀ h : Heap} {L : Addr} (N : News h₀ L h news)
    (hs' : ∃ (a b : Int) (ta tb : Tok) (n : Nat), (src, listOf #[.int a ta, .int b tb] n) ∈ news' ∧ 0 ≤ a ∧ 0 ≤ b ∧ b < 2147483647) (hk : ∀ q ∈ news, q.1 ≠ src → q ∈ news') : Inv w news' src x dx r fst rows := by
  obtain ⟨⟨a, b, ta, tb, n, h1, h2⟩, ⟨lst, S⟩, ⟨ds, R, hd⟩, dxr, ⟨D1, D2, D3, m, t1, t2, t3, t4, t5, t6, f1, f2, f3, f4⟩⟩ := I
  have hds := R.apart N h1 (fun es ep e => by cases e)
  have ntup : ∀ a (us : Array Value) n, (a, ({ cls := .type "tuple", data := .seq us n } : Obj)) ∈ news → a ≠ src := fun a us n hm => news_ne N hm h1 fun e => absurd (Value.type.inj (congrArg Obj.cls e)) (by decide)
  refine ⟨hs', ⟨lst, S.mono' (fun o ho => hk _ ho ?_) (fun o ho => hk _ ho ?_) (fun o ho => hk _ ho ?_) fun a us n hm => hk _ hm (ntup _ _ _ hm)⟩, ⟨ds, R.mono' (fun o ho => hk _ ho fun e => hds.2 e.symm) (fun d hd' o ho => hk _ ho fun e => hds.1 (e ▸ hd')), hd⟩, dxr, ⟨D1, D2, D3, m, t1, t2, t3, t4, t5, t6, hk _ f1 (news_ne N f1 h1 (list_ne (by simp))), hk _ f2 (ntup _ _ _ f2), hk _ f3 (ntup _ _ _ f3), hk _ f4 (ntup _ _ _ f4)⟩⟩
  · exact news_ne N S.obj h1 fun e => by have := congrArg Obj.cls e; cases this
  · obtain ⟨hh, kt, o2⟩ := S.dic
    exact news_ne N o2 h1 fun e => absurd (Value.type.inj (congrArg Obj.cls e)) (by decide)
  · obtain ⟨vs, n', o3, D⟩ := S.lis
    refine news_ne N o3 h1 (list_ne fun e => ?_)
    have e := congrArg Array.toList e
    exact items_refs D _ _ _ e
theorem Inv.srcTake {w : World} {news : List (Addr × Obj)} {src x dx r fst : Addr} {rows : List (Kd × Bool)} (I : Inv w news src x dx r fst rows) {h₀ h : Heap} {L : Addr} (N : News h₀ L h news) {a b : Int} (ta tb : Tok) (n : Nat) (ha : 0 ≤ a) (hb : 0 ≤ b) (hb' : b < 2147483647) :
    Inv w ((src, listOf #[.int a ta, .int b tb] n) :: off src news) src x dx r fst rows :=
  I.srcStep N ⟨_, _, _, _, _, List.mem_cons_self .., ha, hb, hb'⟩ (fun q hq hs => List.mem_cons_of_mem _ (mem_off.mpr ⟨hq, hs⟩))
theorem Inv.subN {w : World} {news news' : List (Addr × Obj)} {src x dx r fst : Addr} {rows : List (Kd × Bool)} (I : Inv w news src x dx r fst rows) {h₀ h : Heap} {L : Addr} (N : News h₀ L h news') (hs : ∀ q ∈ news, q ∈ news') : Inv w news' src x dx r fst rows := I.sub hs
/-- a step that changes the stack alone: all but the stack's part stays -/
theorem Inv.stkStep {w : World} {news news' : List (Addr × Obj)} {src x dx r fst : Addr} {rows : List (Kd × Bool)} (I : Inv w news src x dx r fst rows) {h₀ h : Heap} {L : Addr} (N : News h₀ L h news) (hk : ∀ q ∈ news, q.1 ≠ dx → q ∈ news') :
    (∃ (a b : Int) (ta tb : Tok) (n : Nat), (src, listOf #[.int a ta, .int b tb] n) ∈ news' ∧ 0 ≤ a ∧ 0 ≤ b ∧ b < 2147483647) ∧ (∃ ds, RecIn w news' r ds rows ∧ dx ∉ ds) ∧
    (∃ (D1 D2 D3 : Addr) (n : Nat) (t1 t2 t3 t4 t5 t6 : Tok), (fst, listOf #[.ref D1, .ref D2, .ref D3] n) ∈ news' ∧ (D1, tup2 (Str.ofString "shared") t1 t2) ∈ news' ∧ (D2, tup2 (Str.ofString "shared") t3 t4) ∈ news' ∧ (D3, tup2 (Str.ofString "read") t5 t6) ∈ news') := by
  obtain ⟨⟨a, b, ta, tb, n, h1, h2⟩, ⟨lst, S⟩, ⟨ds, R, hd⟩, dxr, ⟨D1, D2, D3, m, t1, t2, t3, t4, t5, t6, f1, f2, f3, f4⟩⟩ := I
  obtain ⟨hh, kt, o2⟩ := S.dic
  have ndx : ∀ a o, (a, o) ∈ news → o.cls ≠ .type "dict" → a ≠ dx := fun a o hm hc => news_ne N hm o2 fun e => hc (by rw [e])
  refine ⟨⟨a, b, ta, tb, n, hk _ h1 (ndx _ _ h1 (by intro e; exact absurd (Value.type.inj e) (by decide))), h2⟩, ⟨ds, R.mono' (fun o ho => hk _ ho fun e => dxr e.symm) (fun d hd' o ho => hk _ ho fun e => hd (e ▸ hd')), hd⟩, ⟨D1, D2, D3, m, t1, t2, t3, t4, t5, t6, hk _ f1 (ndx _ _ f1 ?_), hk _ f2 (ndx _ _ f2 ?_), hk _ f3 (ndx _ _ f3 ?_), hk _ f4 (ndx _ _ f4 ?_)⟩⟩
  all_goals (intro e; exact absurd (Value.type.inj e) (by decide))
/-- the record's inner dicts are not the stack's dict -/
theorem dict_two {prog : Program} {w : World} {e : DictEntry} {n : Nat} {k : Str} {t : Tok} {al : Bool} (h : (dictOf [e] n).IsDictOf (PySem.strKind prog w) (innerKv k t al)) : False := by
  obtain ⟨es, ep, -, hd, -, hp, -⟩ := h
  have e1 : es.toList.length = 2 := hp.length
  injection hd with e2 e3
  rw [← e2] at e1
  simp at e1
/-- a step that changes the record alone -/
theorem Inv.doneStep {w : World} {news news' : List (Addr × Obj)} {src x dx r fst lst : Addr} {ds : List Addr} {rows rows' : List (Kd × Bool)} {h₀ h h' : Heap} {L : Addr} (N : News h₀ L h news) (N' : News h₀ L h' news')
    (hs : ∃ (a b : Int) (ta tb : Tok) (n : Nat), (src, listOf #[.int a ta, .int b tb] n) ∈ news ∧ 0 ≤ a ∧ 0 ≤ b ∧ b < 2147483647) (S : StackIn news x dx lst (told rows')) (R : RecIn w news r ds rows) (hd : dx ∉ ds) (dxr : dx ≠ r)
    (fr : ∃ (D1 D2 D3 : Addr) (n : Nat) (t1 t2 t3 t4 t5 t6 : Tok), (fst, listOf #[.ref D1, .ref D2, .ref D3] n) ∈ news ∧ (D1, tup2 (Str.ofString "shared") t1 t2) ∈ news ∧ (D2, tup2 (Str.ofString "shared") t3 t4) ∈ news ∧ (D3, tup2 (Str.ofString "read") t5 t6) ∈ news)
    (hR' : ∃ ds', RecIn w news' r ds' rows') (hk : ∀ q ∈ news, q.1 ∉ ds → q.1 ≠ r → q ∈ news') : Inv w news' src x dx r fst rows' := by
  have go : ∀ a o, (a, o) ∈ news → (∀ es ep, o.data ≠ .dict es ep) → (a, o) ∈ news' := fun a o hm ho => by
    obtain ⟨h1, h2⟩ := R.apart N hm ho
    exact hk _ hm h1 h2
  obtain ⟨a, b, ta, tb, n, h1, h2⟩ := hs
  obtain ⟨D1, D2, D3, m, t1, t2, t3, t4, t5, t6, f1, f2, f3, f4⟩ := fr
  have kdx : ∀ o, (dx, o) ∈ news → (dx, o) ∈ news' := fun o ho => hk _ ho hd dxr
  have S' : StackIn news' x dx lst (told rows') := by
    obtain ⟨o1, ⟨hh, kt, o2⟩, ⟨vs, n', o3, D⟩⟩ := S
    exact ⟨go _ _ o1 (fun _ _ e => by cases e), ⟨hh, kt, kdx _ o2⟩, ⟨vs, n', go _ _ o3 (fun _ _ e => by cases e), items_mono (fun a us n hm => go _ _ hm (fun _ _ e => by cases e)) D⟩⟩
  obtain ⟨ds', R'⟩ := hR'
  refine ⟨⟨a, b, ta, tb, n, go _ _ h1 (fun _ _ e => by cases e), h2⟩, ⟨lst, S'⟩, ⟨ds', R', fun hm => ?_⟩, dxr, ⟨D1, D2, D3, m, t1, t2, t3, t4, t5, t6, go _ _ f1 (fun _ _ e => by cases e), go _ _ f2 (fun _ _ e => by cases e), go _ _ f3 (fun _ _ e => by cases e), go _ _ f4 (fun _ _ e => by cases e)⟩⟩
  obtain ⟨i, hi, rfl⟩ := List.mem_iff_getElem.mp hm
  have hi2 : i < rows'.length := by rw [← R'.len]; exact hi
  obtain ⟨o', t, m', q⟩ := R'.inn i _ rows'[i].1 rows'[i].2 (List.getElem?_eq_getElem hi) (List.getElem?_eq_getElem hi2)
  obtain ⟨hh, kt, o2⟩ := S'.dic
  have := news_fun N' o2 m' rfl
  injection this with e1 e2
  subst e2
  exact dict_two q
/-- all but the records of fields stays -/
theorem Inv.keepF {w : World} {news news' : List (Addr × Obj)} {src x dx r fst : Addr} {rows : List (Kd × Bool)} (I : Inv w news src x dx r fst rows) (hk : ∀ a o, (a, o) ∈ news → (∀ fs, o.data ≠ .fields fs) → (a, o) ∈ news') : Inv w news' src x dx r fst rows := by
  obtain ⟨⟨a, b, ta, tb, n, h1, h2⟩, ⟨lst, S⟩, ⟨ds, R, hd⟩, dxr, ⟨D1, D2, D3, m, t1, t2, t3, t4, t5, t6, f1, f2, f3, f4⟩⟩ := I
  refine ⟨⟨a, b, ta, tb, n, hk _ _ h1 (fun _ e => by cases e), h2⟩, ⟨lst, ?_⟩, ⟨ds, ?_, hd⟩, dxr, ⟨D1, D2, D3, m, t1, t2, t3, t4, t5, t6, hk _ _ f1 (fun _ e => by cases e), hk _ _ f2 (fun _ e => by cases e), hk _ _ f3 (fun _ e => by cases e), hk _ _ f4 (fun _ e => by cases e)⟩⟩
  · obtain ⟨o1, ⟨hh, kt, o2⟩, ⟨vs, n', o3, D⟩⟩ := S
    exact ⟨hk _ _ o1 (fun _ e => by cases e), ⟨hh, kt, hk _ _ o2 (fun _ e => by cases e)⟩, ⟨vs, n', hk _ _ o3 (fun _ e => by cases e), items_mono (fun a us n hm => hk _ _ hm (fun _ e => by cases e)) D⟩⟩
  · refine ⟨let ⟨ro, a, b⟩ := R.out; ⟨ro, hk _ _ a ?_, b⟩, R.len, R.nd, R.rnd, R.lo, fun i d k al e1 e2 => let ⟨o, t, m, q⟩ := R.inn i d k al e1 e2; ⟨o, t, hk _ _ m ?_, q⟩⟩
    · intro fs e
      obtain ⟨es, ep, hd⟩ := dict_data b
      rw [hd] at e; cases e
    · intro fs e
      obtain ⟨es, ep, hd⟩ := dict_data q
      rw [hd] at e; cases e
theorem Inv.offI {w : World} {news : List (Addr × Obj)} {src x dx r fst J : Addr} {oJ : Obj} {fs : Array Value} {rows : List (Kd × Bool)} (I : Inv w news src x dx r fst rows) {h₀ h : Heap} {L : Addr} (N : News h₀ L h news) (hm : (J, oJ) ∈ news) (hf : oJ.data = .fields fs) : Inv w (off J news) src x dx r fst rows :=
  I.keepF fun _ _ ho hn => mem_off.mpr ⟨ho, news_ne N ho hm fun e => hn fs (e ▸ hf)⟩
theorem inv_start {w : World} {news : List (Addr × Obj)} {src x dx lst tp r d fst D1 D2 D3 : Addr} {ro o : Obj} {a b : Int} {ta tb kt t t1 t2 t3 t4 t5 t6 t7 t8 : Tok} {hh : Int} {n m k c : Nat} {h₀ h' : Heap} {L : Addr} (N : News h₀ L h' news)
    (h1 : (x, instObj 104 dx) ∈ news) (h2 : (dx, dictOf [⟨hh, .str (Str.ofString "items") kt, .ref lst⟩] 1) ∈ news) (h3 : (lst, listOf #[.ref tp] n) ∈ news) (h4 : (tp, ({ cls := .type "tuple", data := .seq #[Value.int 0 t1, Value.str (Str.ofString "unique") t2] k } : Obj)) ∈ news)
    (h5 : (src, listOf #[.int a ta, .int b tb] m) ∈ news) (ha : 0 ≤ a) (hb : 0 ≤ b) (hb' : b < 2147483647)
    (h7 : ro.IsDictOf (PySem.intKind PySem.Challenge.rw_nz0124_01.row.prog w) [(0, Value.ref d)]) (h6 : (r, ro) ∈ news) (h9 : o.IsDictOf (PySem.strKind PySem.Challenge.rw_nz0124_01.row.prog w) (innerKv Kd.u.t t true)) (h8 : (d, o) ∈ news)
    (lo : (r == sysModules) = false) (l1 : r ≠ d) (l2 : dx ≠ d) (l3 : dx ≠ r)
    (h10 : (fst, listOf #[.ref D1, .ref D2, .ref D3] c) ∈ news) (h11 : (D1, tup2 (Str.ofString "shared") t3 t4) ∈ news) (h12 : (D2, tup2 (Str.ofString "shared") t5 t6) ∈ news) (h13 : (D3, tup2 (Str.ofString "read") t7 t8) ∈ news) :
    Inv w news src x dx r fst [(.u, true)] := by
  refine ⟨⟨a, b, ta, tb, m, h5, ha, hb, hb'⟩, ⟨lst, h1, ⟨_, _, h2⟩, ⟨[.ref tp], n, h3, ?_⟩⟩, ⟨[d], ⟨⟨ro, h6, h7⟩, rfl, (by simp), fun h => l1 (List.mem_singleton.mp h), lo, ?_⟩, fun h => l2 (List.mem_singleton.mp h)⟩, l3, ⟨D1, D2, D3, c, _, _, _, _, _, _, h10, h11, h12, h13⟩⟩
  · exact .cons (item_mk (p := (0, .u)) h4) .nil
  · intro i d' k' al e1 e2
    match i, e1, e2 with
    | 0, e1, e2 =>
      cases e1
      cases e2
      exact ⟨o, t, h8, h9⟩
theorem items_ok (rows : List (Kd × Bool)) : ∀ d ∈ (told rows).map itemD, kqdOk 8 d = true := fun d hd => by
  obtain ⟨⟨j, k⟩, -, rfl⟩ := List.mem_map.mp hd
  simp only [itemD, kqdOk, List.all_cons, List.all_nil, Bool.and_true, Bool.true_and]
  cases k <;> decide +kernel
theorem words_wd {x : Str} (h : x ∈ wordsS) : ∃ wd : Wd, x = wd.t := by
  simp only [wordsS, List.mem_cons, List.not_mem_nil, or_false] at h
  rcases h with rfl | rfl | rfl | rfl | rfl | rfl
  · exact ⟨.rd, rfl⟩
  · exact ⟨.wr, rfl⟩
  · exact ⟨.un, rfl⟩
  · exact ⟨.sh, rfl⟩
  · exact ⟨.rs, rfl⟩
  · exact ⟨.rs, rfl⟩
theorem may_alive {rows : List (Kd × Bool)} {wd : Wd} {tag : Int} (h : mayAt rows wd tag = true) : aliveAt rows tag = true := by
  unfold mayAt at h
  rw [Bool.and_eq_true] at h
  exact h.1
end
end
section
open PySem PySem.W PyProof.Rows PySem.Spec
section
section
variable {prog : Program} {w : World} {A : Around} {E : Value → Shared → Prop} {s : Shared} {env : Env} {h₀ : Heap} {x : Str} {body : List Stmt} {Q : Flow → Shared → Prop}
theorem map4 {y1 y2 y3 y4 : Str} {m₁ m₀ : Str → Option Value} {v : Option Value} (hm : ∀ z, z ≠ x → z ≠ y1 → z ≠ y2 → z ≠ y3 → z ≠ y4 → m₁ z = m₀ z) :
    (fun z => if z = x then v else m₁ z) = fun z => if z = x then v else if z = y1 then m₁ z else if z = y2 then m₁ z else if z = y3 then m₁ z else if z = y4 then m₁ z else m₀ z := by
  funext z
  by_cases h0 : z = x
  · simp [h0]
  by_cases h1 : z = y1
  · simp [h1]
  by_cases h2 : z = y2
  · simp [h2]
  by_cases h3 : z = y3
  · simp [h3]
  by_cases h4 : z = y4
  · simp [h4]
  simp only [if_neg h0, if_neg h1, if_neg h2, if_neg h3, if_neg h4]
  exact hm z h0 h1 h2 h3 h4
theorem map4u {y1 y2 y3 y4 : Str} {m₁ m₀ : Str → Option Value} (hm : ∀ z, z ≠ x → z ≠ y1 → z ≠ y2 → z ≠ y3 → z ≠ y4 → m₁ z = m₀ z) :
    m₁ = fun z => if z = x then m₁ z else if z = y1 then m₁ z else if z = y2 then m₁ z else if z = y3 then m₁ z else if z = y4 then m₁ z else m₀ z := by
  funext z
  by_cases h0 : z = x
  · simp [h0]
  by_cases h1 : z = y1
  · simp [h1]
  by_cases h2 : z = y2
  · simp [h2]
  by_cases h3 : z = y3
  · simp [h3]
  by_cases h4 : z = y4
  · simp [h4]
  simp only [if_neg h0, if_neg h1, if_neg h2, if_neg h3, if_neg h4]
  exact hm z h0 h1 h2 h3 h4
/-- a for over a range, where the body stores four names -/
theorem range_loop4 (y1 y2 y3 y4 : Str) {r : Addr} {a₀ b₀ c : Int} {t₀ u₀ v₀ : Tok} {n : Nat} {m₀ : Str → Option Value} {news : List (Addr × Obj)} (J : Nat → List (Addr × Obj) → Prop)
    (hh : A.handled = none) (hr : IsRange s.heap r a₀ b₀ c t₀ u₀ v₀) (hsmall : Builtin.Range.small a₀ b₀ c = true) (hn : Builtin.Range.rangeSize a₀ b₀ c = (n : Int)) (F : Fr h₀ env.locals s.heap m₀) (N : News h₀ env.locals s.heap news) (hj : J 0 news)
    (turn : ∀ (P : Flow → Shared → Prop) (E : Value → Shared → Prop) gs dr os i t (u : Str → Option Value) nx h tk I oI, i < n → (∃ fs, oI.data = .fields fs) → (∀ q ∈ nx, q.1 ≠ I) → J i nx →
      Fr h₀ env.locals h (fun z => if z = x then some (.int (a₀ + (i : Int) * c) t) else if z = y1 then u z else if z = y2 then u z else if z = y3 then u z else if z = y4 then u z else m₀ z) → News h₀ env.locals h ((I, oI) :: nx) →
      (∀ h' tk' m' news' nx', Fr h₀ env.locals h' m' → News h₀ env.locals h' news' → (∀ z, z ≠ x → z ≠ y1 → z ≠ y2 → z ≠ y3 → z ≠ y4 → m' z = m₀ z) → J (i + 1) nx' → (∀ q ∈ nx', q.1 ≠ I) → (∀ p ∈ nx', p ∈ news') → (I, oI) ∈ news' → P .next ⟨h', gs, dr, tk', os⟩) →
      wpAny (model prog w) A (execs body env) P E ⟨h, gs, dr, tk, os⟩)
    (done : ∀ (u : Str → Option Value) nx h tk, J n nx → Fr h₀ env.locals h (fun z => if z = x then u z else if z = y1 then u z else if z = y2 then u z else if z = y3 then u z else if z = y4 then u z else m₀ z) → News h₀ env.locals h nx → Q .next { s with heap := h, toks := tk }) :
    wpAny (model prog w) A (pyIter (.ref r)) (fun it s₂ => LoopAtV prog w A h₀ env x body Q E it s₂) E s :=
  range_loop (fun i m nx => (∀ z, z ≠ x → z ≠ y1 → z ≠ y2 → z ≠ y3 → z ≠ y4 → m z = m₀ z) ∧ J i nx) hh hr hsmall hn F N ⟨fun _ _ _ _ _ _ => rfl, hj⟩
    (fun i t m₁ nx h tk I oI h1 h2 h4 h5 F₁ N₁ => turn _ _ s.gens s.drawn s.os i t m₁ nx h tk I oI h1 h2 h4 h5.2 (map4 h5.1 ▸ F₁) N₁
      fun h' tk' m' news' nx' F' N' hm hj hI hn hi => inv_end nx' F' N' ⟨hm, hj⟩ hI hn hi)
    fun m₁ nx h tk h5 F₁ N₁ => done m₁ nx h tk h5.2 ((map4u h5.1) ▸ F₁) N₁
end
end
end
section
theorem freshNzWalk : True := by
  w_top off
  exact trivial
open PySem PySem.W PyProof.Rows
section
local macro_rules | `(tactic| walk_at "call builtin:len") => `(tactic| (k_here; (with_reducible show wpAny _ _ (call (Value.builtin "len") [Value.ref _]) _ _ _); k_dflt (refine kda_len (knd := PySem.intKind _ _) (by k_asm) (by k_mem) (by k_asm) (by k_asm) (by assumption) ?_)))
local macro_rules | `(tactic| walk_at "subscriptTail") => `(tactic| walk_at "nz 5")
theorem held {p : Prop} (h : Held p) : p := h
local macro_rules | `(tactic| walk_at "call ref") => `(tactic| (k_here; (first | (with_reducible show wpAny _ _ (call (Value.ref 115) _) _ _ _) | (with_reducible show wpAny _ _ (call (Value.ref 122) _) _ _ _) | (with_reducible show wpAny _ _ (call (Value.ref 129) _) _ _ _) | (with_reducible show wpAny _ _ (call (Value.ref 136) _) _ _ _) | (with_reducible show wpAny _ _ (call (Value.ref 150) _) _ _ _) | (with_reducible show wpAny _ _ (call (Value.ref 157) _) _ _ _) | (with_reducible show wpAny _ _ (call (Value.ref 164) _) _ _ _) | (with_reducible show wpAny _ _ (call (Value.ref 169) _) _ _ _) | (with_reducible show wpAny _ _ (call (Value.ref 82) _) _ _ _)); with_reducible refine held ?_))
local macro_rules | `(tactic| walk_at "pyIter ref") => `(tactic| (k_here; (with_reducible show wpAny _ _ (pyIter (Value.ref _)) (fun it s₂ => LoopAtV _ _ _ _ _ _ _ _ _ it s₂) _ _); with_reducible refine held ?_))
local macro_rules | `(tactic| walk_at "getItem ref str") => `(tactic| walk_at "nz 1")
local macro_rules | `(tactic| walk_at "subscriptTail") => `(tactic| walk_at "nz 2")
local macro_rules | `(tactic| walk_at "subscriptTail") => `(tactic| walk_at "nz 3")
section
variable {prog : Program} {w : World} {A : Around} {E : Value → Shared → Prop} {s : Shared} {env : Env} {h₀ : Heap} {x : Str} {body : List Stmt} {Q : Flow → Shared → Prop}
/-- as range_loop0, and it says that the iterator holds fields -/
theorem range_loop1 {r : Addr} {a₀ b₀ c : Int} {t₀ u₀ v₀ : Tok} {n : Nat} {m₀ : Str → Option Value} {news : List (Addr × Obj)} (J : Nat → List (Addr × Obj) → Prop)
    (hh : A.handled = none) (hr : IsRange s.heap r a₀ b₀ c t₀ u₀ v₀) (hsmall : Builtin.Range.small a₀ b₀ c = true) (hn : Builtin.Range.rangeSize a₀ b₀ c = (n : Int)) (F : Fr h₀ env.locals s.heap m₀) (N : News h₀ env.locals s.heap news) (hj : J 0 news)
    (turn : ∀ (P : Flow → Shared → Prop) (E : Value → Shared → Prop) gs dr os i t nx h tk I oI, i < n → (∃ fs, oI.data = .fields fs) → (∀ q ∈ nx, q.1 ≠ I) → J i nx → Fr h₀ env.locals h (fun z => if z = x then some (.int (a₀ + (i : Int) * c) t) else m₀ z) → News h₀ env.locals h ((I, oI) :: nx) →
      (∀ h' tk' m' news' nx', Fr h₀ env.locals h' m' → News h₀ env.locals h' news' → (∀ z, z ≠ x → m' z = m₀ z) → J (i + 1) nx' → (∀ q ∈ nx', q.1 ≠ I) → (∀ p ∈ nx', p ∈ news') → (I, oI) ∈ news' → P .next ⟨h', gs, dr, tk', os⟩) →
      wpAny (model prog w) A (execs body env) P E ⟨h, gs, dr, tk, os⟩)
    (done : ∀ (u : Str → Option Value) nx h tk, J n nx → Fr h₀ env.locals h (fun z => if z = x then u z else m₀ z) → News h₀ env.locals h nx → Q .next { s with heap := h, toks := tk }) :
    wpAny (model prog w) A (pyIter (.ref r)) (fun it s₂ => LoopAtV prog w A h₀ env x body Q E it s₂) E s :=
  range_loop (fun i m nx => (∀ z, z ≠ x → m z = m₀ z) ∧ J i nx) hh hr hsmall hn F N ⟨fun _ _ => rfl, hj⟩
    (fun i t m₁ nx h tk I oI h1 h2 h4 h5 F₁ N₁ => turn _ _ s.gens s.drawn s.os i t nx h tk I oI h1 h2 h4 h5.2 (map_x h5.1 ▸ F₁) N₁
      fun h' tk' m' news' nx' F' N' hm hj hI hn hi => inv_end nx' F' N' ⟨hm, hj⟩ hI hn hi)
    fun m₁ nx h tk h5 F₁ N₁ => done m₁ nx h tk h5.2 ((map_u h5.1).symm ▸ F₁) N₁
end
set_option maxRecDepth 100000 in
set_option maxHeartbeats 8000000 in
theorem law_holds : PySem.Challenge.rw_nz0124_01.Holds := Nz.hd (by
  k_go0
  all_goals try k_fold
  k_steps
  unfold Held
  rename IntsAre _ _ => hI
  rename News _ _ _ _ => N5
  rename Below _ _ _ _ => K0
  rename (_ : Heap).IsList _ _ => hl
  rename ¬ _ < _ => hcond
  have hlen := hI.length
  refine pool_spec _ _ _ _ _ _ hI (by omega) K0 (by k_asm) (by k_asm) N5 (by k_asm) hl rfl (by ktr_room) (by ktr_units) ?_
  rintro r9 n9 h9 tk9 F9 N9 ⟨src, a, b, ta, tb, rfl, hsrc, ha, hb, hb', -⟩
  replace N9 := news_front N9 hsrc
  dsimp only at N9
  clear N5
  k_steps
  unfold Held
  rename News _ _ _ _ => N5
  rename Obj.IsDictOf (PySem.intKind _ _) _ (intKeyPairs _) => hq2
  rename Obj.IsDictOf (PySem.strKind _ _) _ (strPairs _) => hq1
  have I0 := inv_start N5 (by k_mem) (by k_mem) (by k_mem) (by k_mem) (src := src) (by k_mem) ha hb hb' hq2 (by k_mem) hq1 (by k_mem) (by assumption) (by k_ne) (by k_ne) (by k_ne) (by k_mem) (by k_mem) (by k_mem) (by k_mem)
  refine CallAt.use (take_spec _ _ src a b 8 ta tb _ 0 (by k_mem) ha hb hb' (by decide) (by decide)) K0 (by k_asm) (by k_asm) N5 (by k_asm) rfl (by ktr_room) (by ktr_units) ?_
  rintro r9 n8 h9 tk9 F9 N9 ⟨rv, a', b', tr, ta', tb', rfl, hr0, hr8, ha', hb1', hb2', rfl⟩
  have I1 := I0.srcTake N5 ta' tb' 0 ha' hb1' hb2'
  clear I0 N5
  k_steps
  unfold Held
  rename IsRange _ _ _ _ _ _ _ _ => R1
  rename Fr _ _ _ _ => F1
  rename News _ _ _ _ => N1
  refine range_loop4 (Str.ofString "word") (Str.ofString "tag") (Str.ofString "fresh") (Str.ofString "due") (n := (5 + rv - 0).toNat) (fun i nx => ∃ rows, Inv _ nx src _ _ _ _ rows ∧ rows.length ≤ 1 + i) rfl R1 (small_one (by omega) (by omega) (by omega) (by omega)) (rangeSize_nat _ _) F1 N1 ⟨_, I1, Nat.le_refl _⟩ ?_ ?_
  · clear F1 N1 R1 I1
    rintro P1 E1 gs dr os i t u nx h tk I oI hi ⟨fs, hfs⟩ hI ⟨rows, IV, hlen⟩ F2 N2 hP1
    try dsimp only at F2
    obtain ⟨a, b, ta, tb, n, hsrc, ha, hb, hb'⟩ := IV.src
    k_steps
    unfold Held
    rename News _ _ _ _ => N5
    have IV5 := IV.subN N5 (fun q hq => List.mem_cons_of_mem _ (List.mem_cons_of_mem _ hq))
    have hIs : ¬ I = src := fun e => hI _ hsrc e.symm
    refine CallAt.use (one_spec _ _ src _ a b ta tb _ _ _ _ _ _ n 0 (by k_mem) (by k_mem) ha hb hb') K0 (by k_asm) (by k_asm) N5 (by k_asm) rfl (by ktr_room) (by ktr_units) ?_
    rintro r9 n9 h9 tk9 F9 N9 ⟨xw, a', b', tr, ta', tb', rfl, hw, hs9, K9, ha', hb1', hb2'⟩
    have IV9 := IV5.srcStep N5 ⟨_, _, _, _, _, hs9, ha', hb1', hb2'⟩ K9
    have hI9 : (I, oI) ∈ n9 := K9 _ (by k_mem) hIs
    obtain ⟨wd, rfl⟩ := words_wd hw
    clear N5 IV IV5 hsrc
    obtain ⟨ds, R, hdx⟩ := IV9.rcd
    obtain ⟨ro, hro, hrd⟩ := R.out
    have lo := R.lo
    have hkl : (kvsOf ds).length = rows.length := by rw [kvs_len, R.len]
    have hkf : (kvsOf ds).length ≤ 16777216 := by omega
    k_steps
    unfold Held
    rename News _ _ _ _ => N5
    refine CallAt.use (take_spec _ _ src a' b' _ ta' tb' _ n (by k_mem) ha' hb1' hb2' (by omega) (by omega)) K0 (by k_asm) (by k_asm) N5 (by k_asm) rfl (by ktr_room) (by ktr_units) ?_
    rintro r9 n8 h9 tk9 F9 N9 ⟨tagv, a2, b2, tr2, ta2, tb2, rfl, ht0, ht1, ha2, hb12, hb22, rfl⟩
    have IV10 := IV9.srcTake N5 ta2 tb2 n ha2 hb12 hb22
    have hI10 : (I, oI) ∈ off src n9 := mem_off.mpr ⟨hI9, hIs⟩
    clear hro hrd hdx lo R hkl hkf IV9 N5 hs9 hI9
    obtain ⟨ds2, R, hdx⟩ := IV10.rcd
    obtain ⟨ro2, hro, hrd⟩ := R.out
    have lo := R.lo
    have hkl : (kvsOf ds2).length = rows.length := by rw [kvs_len, R.len]
    have hkf : (kvsOf ds2).length ≤ 16777216 := by omega
    obtain ⟨tg, rfl⟩ : ∃ tg : Nat, tagv = (tg : Int) := ⟨tagv.toNat, by omega⟩
    obtain ⟨D1, D2, D3, nf, s1, s2, s3, s4, s5, s6, f1, f2, f3, f4⟩ := IV10.frs
    by_cases hi3 : i < 3
    · have hv : ∃ (Dt : Addr) (wd' : Wd) (s1 s2 : Tok), [Value.ref D1, Value.ref D2, Value.ref D3][(0 + (i : Int) * 1).toNat]? = some (.ref Dt) ∧ (Dt, tup2 wd'.t s1 s2) ∈ (src, listOf #[.int a2 ta2, .int b2 tb2] n) :: off src n9 := by
        obtain rfl | rfl | rfl : i = 0 ∨ i = 1 ∨ i = 2 := by omega
        · exact ⟨D1, .sh, _, _, rfl, f2⟩
        · exact ⟨D2, .sh, _, _, rfl, f3⟩
        · exact ⟨D3, .rd, _, _, rfl, f4⟩
      obtain ⟨Dt, wd', s1, s2, hv, hDt⟩ := hv
      unfold tup2 at hDt
      clear f2 f3 f4
      k_steps
      unfold Held
      rename News _ _ _ _ => N5
      refine CallAt.use (may_spec _ _ _ ds2 rows 0 _ _ wd' (R.sub fun q hq => by k_ownIn) (by omega)) K0 (by k_asm) (by k_asm) N5 (by k_asm) rfl (by ktr_room) (by ktr_units) ?_
      rintro r9 n7 h9 tk9 F9 N9 ⟨rfl, K7⟩
      have IV7 := IV10.subN N9 (fun q hq => K7 q (by k_ownIn))
      have hI7 := K7 _ (List.mem_cons_of_mem _ hI10)
      obtain ⟨lst, S⟩ := IV7.stk
      have htl := told_len rows
      clear N5 R hro hrd IV10 hI10 K7
      obtain ⟨due, hm⟩ : ∃ due, mayAt rows wd' 0 = due := ⟨_, rfl⟩
      rw [hm]
      cases due
      all_goals k_steps
      all_goals unfold Held
      all_goals rename News _ _ _ _ => N5
      all_goals refine do_spec _ _ _ _ lst (told rows) wd' 0 _ _ _ _ (S.sub fun q hq => by k_ownIn) (by omega) (told_uniq rows) K0 (by k_asm) (by k_asm) N5 (by k_asm) (by k_asm) (by k_asm) rfl (by ktr_room) (by ktr_units) ?_
      all_goals (
        rintro r9 n6 h9 tk9 F9 N9 (⟨rfl, ⟨i0, k0, lst', hi0, hk0, S6, hoff6⟩, K6⟩ | ⟨rfl, hrf, K6⟩))
      · exact absurd ((may_of_done hi0 hk0).symm.trans hm) (by decide)
      · have IV6 := IV7.subN N9 (fun q hq => K6 q (by k_ownIn))
        have hI6 := K6 _ (List.mem_cons_of_mem _ hI7)
        obtain ⟨ds6, R6, hdx6⟩ := IV6.rcd
        obtain ⟨lst6, S6⟩ := IV6.stk
        have o1 := S6.obj
        obtain ⟨hh6, kt6, o2⟩ := S6.dic
        obtain ⟨vs6, n6', o3, D6⟩ := S6.lis
        clear N5 IV7 S hI7 K6
        k_steps
        unfold Held
        rename News _ _ _ _ => N5
        refine CallAt.use (told_spec _ _ _ ds6 rows R6 (by omega)) K0 (by k_asm) (by k_asm) N5 (by k_asm) rfl (by ktr_room) (by ktr_units) ?_
        rintro r9 n5 h9 tk9 F9 N9 ⟨⟨Dt, vst, nt, rfl, hDt, Dd⟩, K5⟩
        have D6' := D6.mono K5
        have o3' := K5 _ o3
        have hok := items_ok rows
        have hI5 := K5 _ hI6
        have IV5 := (IV6.subN N9 K5).offI N9 hI5 hfs
        clear N5
        k_steps
        exact hP1 _ _ _ _ (off I n5) (by assumption) (by assumption) (fun z h1 h2 h3 h4 h5 => by simp [h1, h2, h3, h4, h5]) ⟨rows, IV5, by omega⟩ (fun q hq => (mem_off.mp hq).2) (fun p hp => (mem_off.mp hp).1) hI5
      · obtain ⟨hs6, ⟨ds6, R6, hdx6⟩, fr6⟩ := (IV7.subN N5 fun q hq => by k_ownIn).stkStep N5 K6
        have dxr := IV7.dxr
        have hI6 := K6 _ (List.mem_cons_of_mem _ hI7) (news_ne N5 (List.mem_cons_of_mem _ hI7) (List.mem_cons_of_mem _ S.dic.choose_spec.choose_spec) fun e => by have := congrArg Obj.data e; rw [hfs] at this; cases this)
        rw [hkl, ← done_told hi0] at S6
        clear N5 IV7 S hI7 K6
        k_steps
        unfold Held
        rename News _ _ _ _ => N5
        refine CallAt.use (done_spec _ _ _ ds6 rows _ _ _ _ _ wd' R6 (by omega) (may_alive hm) (by rw [hkl]) (by omega)) K0 (by k_asm) (by k_asm) N5 (by k_asm) rfl (by ktr_room) (by ktr_units) ?_
        rintro r9 n5 h9 tk9 F9 N9 ⟨rfl, hR5, K5⟩
        have hIa := R6.apart N5 hI6 (fun es ep e => by rw [hfs] at e; cases e)
        have hI5 := K5 _ hI6 hIa.1 hIa.2
        obtain ⟨rows5, IV5, hdl⟩ : ∃ rows5, Inv _ n5 src _ _ _ _ rows5 ∧ rows5.length ≤ rows.length + 1 := ⟨_, Inv.doneStep N5 N9 hs6 S6 R6 hdx6 dxr fr6 hR5 K5, done_len⟩
        obtain ⟨ds5, R5, hdx5⟩ := IV5.rcd
        obtain ⟨lst5, S5⟩ := IV5.stk
        have o1 := S5.obj
        obtain ⟨hh5, kt5, o2⟩ := S5.dic
        obtain ⟨vs5, n5', o3, D5⟩ := S5.lis
        clear N5 S6 R6 hdx6 hs6 fr6 hR5 K5 hIa
        k_steps
        unfold Held
        rename News _ _ _ _ => N5
        refine CallAt.use (told_spec _ _ _ ds5 rows5 R5 (by omega)) K0 (by k_asm) (by k_asm) N5 (by k_asm) rfl (by ktr_room) (by ktr_units) ?_
        rintro r9 n4 h9 tk9 F9 N9 ⟨⟨Dt, vst, nt, rfl, hDt, Dd⟩, K4⟩
        have D4 := D5.mono K4
        have o4 := K4 _ o3
        have hok := items_ok rows5
        have hI4 := K4 _ hI5
        have IV4 := (IV5.subN N9 K4).offI N9 hI4 hfs
        clear N5
        k_steps
        exact hP1 _ _ _ _ (off I n4) (by assumption) (by assumption) (fun z h1 h2 h3 h4 h5 => by simp [h1, h2, h3, h4, h5]) ⟨rows5, IV4, by omega⟩ (fun q hq => (mem_off.mp hq).2) (fun p hp => (mem_off.mp hp).1) hI4
      · exact absurd ((may_of_refused hrf).symm.trans hm) (by decide)
    · clear f1 f2 f3 f4
      k_steps
      unfold Held
      rename News _ _ _ _ => N5
      refine CallAt.use (may_spec _ _ _ ds2 rows tg _ _ wd (R.sub fun q hq => by k_ownIn) (by omega)) K0 (by k_asm) (by k_asm) N5 (by k_asm) rfl (by ktr_room) (by ktr_units) ?_
      rintro r9 n7 h9 tk9 F9 N9 ⟨rfl, K7⟩
      have IV7 := IV10.subN N9 (fun q hq => K7 q (by k_ownIn))
      have hI7 := K7 _ (List.mem_cons_of_mem _ hI10)
      obtain ⟨lst, S⟩ := IV7.stk
      have htl := told_len rows
      clear N5 R hro hrd IV10 hI10 K7
      obtain ⟨due, hm⟩ : ∃ due, mayAt rows wd tg = due := ⟨_, rfl⟩
      rw [hm]
      cases due
      all_goals k_steps
      all_goals unfold Held
      all_goals rename News _ _ _ _ => N5
      all_goals refine do_spec _ _ _ _ lst (told rows) wd tg _ _ _ _ (S.sub fun q hq => by k_ownIn) (by omega) (told_uniq rows) K0 (by k_asm) (by k_asm) N5 (by k_asm) (by k_asm) (by k_asm) rfl (by ktr_room) (by ktr_units) ?_
      all_goals (
        rintro r9 n6 h9 tk9 F9 N9 (⟨rfl, ⟨i0, k0, lst', hi0, hk0, S6, hoff6⟩, K6⟩ | ⟨rfl, hrf, K6⟩))
      · exact absurd ((may_of_done hi0 hk0).symm.trans hm) (by decide)
      · have IV6 := IV7.subN N9 (fun q hq => K6 q (by k_ownIn))
        have hI6 := K6 _ (List.mem_cons_of_mem _ hI7)
        obtain ⟨ds6, R6, hdx6⟩ := IV6.rcd
        obtain ⟨lst6, S6⟩ := IV6.stk
        have o1 := S6.obj
        obtain ⟨hh6, kt6, o2⟩ := S6.dic
        obtain ⟨vs6, n6', o3, D6⟩ := S6.lis
        clear N5 IV7 S hI7 K6
        k_steps
        unfold Held
        rename News _ _ _ _ => N5
        refine CallAt.use (told_spec _ _ _ ds6 rows R6 (by omega)) K0 (by k_asm) (by k_asm) N5 (by k_asm) rfl (by ktr_room) (by ktr_units) ?_
        rintro r9 n5 h9 tk9 F9 N9 ⟨⟨Dt, vst, nt, rfl, hDt, Dd⟩, K5⟩
        have D6' := D6.mono K5
        have o3' := K5 _ o3
        have hok := items_ok rows
        have hI5 := K5 _ hI6
        have IV5 := (IV6.subN N9 K5).offI N9 hI5 hfs
        clear N5
        k_steps
        exact hP1 _ _ _ _ (off I n5) (by assumption) (by assumption) (fun z h1 h2 h3 h4 h5 => by simp [h1, h2, h3, h4, h5]) ⟨rows, IV5, by omega⟩ (fun q hq => (mem_off.mp hq).2) (fun p hp => (mem_off.mp hp).1) hI5
      · obtain ⟨hs6, ⟨ds6, R6, hdx6⟩, fr6⟩ := (IV7.subN N5 fun q hq => by k_ownIn).stkStep N5 K6
        have dxr := IV7.dxr
        have hI6 := K6 _ (List.mem_cons_of_mem _ hI7) (news_ne N5 (List.mem_cons_of_mem _ hI7) (List.mem_cons_of_mem _ S.dic.choose_spec.choose_spec) fun e => by have := congrArg Obj.data e; rw [hfs] at this; cases this)
        rw [hkl, ← done_told hi0] at S6
        clear N5 IV7 S hI7 K6
        k_steps
        unfold Held
        rename News _ _ _ _ => N5
        refine CallAt.use (done_spec _ _ _ ds6 rows _ _ _ _ _ wd R6 (by omega) (may_alive hm) (by rw [hkl]) (by omega)) K0 (by k_asm) (by k_asm) N5 (by k_asm) rfl (by ktr_room) (by ktr_units) ?_
        rintro r9 n5 h9 tk9 F9 N9 ⟨rfl, hR5, K5⟩
        have hIa := R6.apart N5 hI6 (fun es ep e => by rw [hfs] at e; cases e)
        have hI5 := K5 _ hI6 hIa.1 hIa.2
        obtain ⟨rows5, IV5, hdl⟩ : ∃ rows5, Inv _ n5 src _ _ _ _ rows5 ∧ rows5.length ≤ rows.length + 1 := ⟨_, Inv.doneStep N5 N9 hs6 S6 R6 hdx6 dxr fr6 hR5 K5, done_len⟩
        obtain ⟨ds5, R5, hdx5⟩ := IV5.rcd
        obtain ⟨lst5, S5⟩ := IV5.stk
        have o1 := S5.obj
        obtain ⟨hh5, kt5, o2⟩ := S5.dic
        obtain ⟨vs5, n5', o3, D5⟩ := S5.lis
        clear N5 S6 R6 hdx6 hs6 fr6 hR5 K5 hIa
        k_steps
        unfold Held
        rename News _ _ _ _ => N5
        refine CallAt.use (told_spec _ _ _ ds5 rows5 R5 (by omega)) K0 (by k_asm) (by k_asm) N5 (by k_asm) rfl (by ktr_room) (by ktr_units) ?_
        rintro r9 n4 h9 tk9 F9 N9 ⟨⟨Dt, vst, nt, rfl, hDt, Dd⟩, K4⟩
        have D4 := D5.mono K4
        have o4 := K4 _ o3
        have hok := items_ok rows5
        have hI4 := K4 _ hI5
        have IV4 := (IV5.subN N9 K4).offI N9 hI4 hfs
        clear N5
        k_steps
        exact hP1 _ _ _ _ (off I n4) (by assumption) (by assumption) (fun z h1 h2 h3 h4 h5 => by simp [h1, h2, h3, h4, h5]) ⟨rows5, IV4, by omega⟩ (fun q hq => (mem_off.mp hq).2) (fun p hp => (mem_off.mp hp).1) hI4
      · exact absurd ((may_of_refused hrf).symm.trans hm) (by decide)
  · clear R1 F1 N1 I1
    rintro u nx h tk ⟨rows, IV, hlen⟩ F2 N2
    try dsimp only at F2
    obtain ⟨ds, R, hdx⟩ := IV.rcd
    obtain ⟨ro, hro, hrd⟩ := R.out
    have lo := R.lo
    have hkl : (kvsOf ds).length = rows.length := by rw [kvs_len, R.len]
    have hkf : (kvsOf ds).length ≤ 16777216 := by omega
    k_steps
    unfold Held
    rename IsRange _ _ _ _ _ _ _ _ => R2
    rename Fr _ _ _ _ => F3
    rename News _ _ _ _ => N3
    refine range_loop1 (n := (((kvsOf ds).length : Int) - 0).toNat) (fun _ nx => Inv _ nx src _ _ _ _ rows) rfl R2 (small_one (by omega) (by omega) (by omega) (by omega)) (rangeSize_nat _ _) F3 N3 IV ?_ ?_
    · rintro P1 E1 gs dr os i t nx h tk I oI hi ⟨fs, hfs⟩ hI IV' F4 N4 hP1
      try dsimp only at F4
      simp only [Int.zero_add, Int.mul_one] at F4
      have hil : i < rows.length := by omega
      clear F3 N3 R2 R hro hrd hdx IV lo hkl hkf hi
      obtain ⟨ds, R, hdx⟩ := IV'.rcd
      k_steps
      unfold Held
      rename News _ _ _ _ => N5
      refine CallAt.use (alive_spec _ _ _ ds rows _ _ (R.sub fun q hq => by k_ownIn) (by omega)) K0 (by k_asm) (by k_asm) N5 (by k_asm) rfl (by ktr_room) (by ktr_units) ?_
      rintro r9 n5 h9 tk9 F9 N9 ⟨rfl, K5⟩
      have IV5 := IV'.subN N9 (fun q hq => K5 q (by k_ownIn))
      have hI5 := K5 _ (List.mem_cons_self ..)
      clear N5 R hdx IV' K5
      obtain ⟨al, hal⟩ : ∃ al, aliveAt rows (i : Int) = al := ⟨_, rfl⟩
      rw [hal]
      cases al
      · k_steps
        exact hP1 _ _ _ _ (off I n5) (by assumption) (by assumption) (fun z h1 => by simp [h1]) (IV5.offI (by assumption) hI5 hfs) (fun q hq => (mem_off.mp hq).2) (fun p hp => (mem_off.mp hp).1) hI5
      · obtain ⟨lst, S⟩ := IV5.stk
        have o1 := S.obj
        obtain ⟨hh5, kt5, o2⟩ := S.dic
        have htl := told_len rows
        obtain ⟨kk, hkk⟩ := alive_iff.mp hal
        k_steps
        unfold Held
        rename News _ _ _ _ => N5
        refine CallX.use (kind_spec _ _ _ _ lst (told rows) _ _ S (by omega)) K0 (by k_asm) (by k_asm) N5 (by k_asm) rfl (by ktr_room) (by ktr_units) ?_ ?_
        · rintro r9 n4 h9 tk9 F9 N9 ⟨⟨j0, j1, k1, t1, hj0, hj1, rfl⟩, K4⟩
          obtain rfl : j1 = i := by omega
          have hrw := told_mem.mp (List.mem_of_getElem? hj0)
          have IV4 := IV5.subN N9 K4
          have hI4 := K4 _ hI5
          obtain ⟨ds4, R4, hdx4⟩ := IV4.rcd
          obtain ⟨ro4, hro4, hrd4⟩ := R4.out
          have lo4 := R4.lo
          obtain ⟨d, k, al, o, t', hd1, hr1, hval, hsome, ho, hdo, -, -⟩ := R4.look (tag := (j1 : Int)) (by omega) (by omega)
          rw [Int.toNat_natCast, hrw] at hr1
          cases hr1
          have IV3 := IV4.offI N9 hI4 hfs
          clear N5 S o1 o2 IV5 hI5 K4 hkk hd1
          cases k1
          all_goals simp only [Kd.t] at *
          all_goals k_steps
          all_goals exact hP1 _ _ _ _ (off I n4) (by assumption) (by assumption) (fun z h1 => by simp [h1]) (IV3) (fun q hq => (mem_off.mp hq).2) (fun p hp => (mem_off.mp hp).1) hI4
        · intro hn
          exact absurd rfl (hn _ hkk)
    · rintro u2 nx2 h2 tk2 - F5 N5
      try dsimp only at F5
      k_steps
  done)
end
end
end Nz
theorem PySem.Challenge.cw_nz0124_01_holds : PySem.Challenge.rw_nz0124_01.Holds := by
  exact Nz.law_holds
