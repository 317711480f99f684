import PyProof.Rows.All
import Wide.All
import OpenK.AllK
import Wide.FinOn
import Lean
import PySem.Challenge.RW_pq0738_01
open PySem PySem.W PyProof.Rows
set_option Elab.async false
namespace Mine
set_option maxRecDepth 100000 in
set_option maxHeartbeats 8000000 in
open_top hd for PySem.Challenge.rw_pq0738_01
end Mine

namespace Mine
inductive Kd where
  | ldr | sto | ldb | stb | addi | movi
def Kd.nm : Kd → Str
  | .ldr => Str.ofString "LDR"
  | .sto => Str.ofString "STR"
  | .ldb => Str.ofString "LDB"
  | .stb => Str.ofString "STB"
  | .addi => Str.ofString "ADDI"
  | .movi => Str.ofString "MOVI"
structure RowD where
  k : Kd
  d : Int
  b : Int
  o : Int
abbrev tupObj (k : Kd) (d b o : Int) (t1 t2 t3 t4 : Tok) (c : Nat) : Obj :=
  { cls := .type "tuple", data := .seq #[.str k.nm t1, .int d t2, .int b t3, .int o t4] c }
inductive RowIn (news : List (Addr × Obj)) : Value → RowD → Prop where
  | mk {a : Addr} {k : Kd} {d b o : Int} {t1 t2 t3 t4 : Tok} {c : Nat} : (a, tupObj k d b o t1 t2 t3 t4 c) ∈ news → RowIn news (.ref a) ⟨k, d, b, o⟩
inductive Row1 (news : List (Addr × Obj)) : List Value → RowD → Prop where
  | mk {v : Value} {r : RowD} : RowIn news v r → Row1 news [v] r
abbrev Cl (f : Addr) {D : Type} (c : ToldN D) : Prop :=
  ∀ (w : World) (mean : ExcName → Option Value) (mg mb : Str → Option Value) (d : D), TellsN Challenge.rw_pq0738_01.row.prog w (Mine.hd.heap_39 w.params) Mine.hd.view_39 (looseW Mine.hd.view_39 []) mean mg mb f c d
def Kd.bytes : Kd → Int
  | .ldr => 4
  | .sto => 4
  | _ => 1
abbrev bytesC : ToldN RowD where
  Rel := Row1
  Ok := fun _ => True
  size := fun _ => 1
  Tl := fun tl => tl = []
  Out := fun _ r d => ∃ t, r = .int d.k.bytes t
end Mine

namespace Mine
abbrev leafC (f : Kd → Bool) : ToldN RowD where
  Rel := Row1
  Ok := fun _ => True
  size := fun _ => 1
  Tl := fun tl => tl = []
  Out := fun _ r d => r = .bool (f d.k)
def Kd.mem : Kd → Bool | .ldr | .sto | .ldb | .stb => true | _ => false
def Kd.load : Kd → Bool | .ldr | .ldb => true | _ => false
def Kd.store : Kd → Bool | .sto | .stb => true | _ => false
def Kd.ctrl : Kd → Bool := fun _ => false
abbrev memC := leafC Kd.mem
abbrev loadC := leafC Kd.load
abbrev storeC := leafC Kd.store
abbrev ctrlC := leafC Kd.ctrl

theorem bytes_t {k : Kd} (h : (["LDR", "STR"].any fun x => Str.ofString x == k.nm) = true) : k.bytes = 4 := by
  revert h; cases k <;> decide +kernel
theorem bytes_f {k : Kd} (h : (["LDR", "STR"].any fun x => Str.ofString x == k.nm) = false) : k.bytes = 1 := by
  revert h; cases k <;> decide +kernel
theorem mem_any (k : Kd) : (["LDR", "LDB", "STR", "STB"].any fun x => Str.ofString x == k.nm) = k.mem := by cases k <;> decide +kernel
theorem ctrl_any (k : Kd) : (["B", "BL", "BR", "BLR", "TRAP"].any fun x => Str.ofString x == k.nm) = k.ctrl := by cases k <;> decide +kernel
theorem load_t {k : Kd} (h : (k.nm == Str.ofString "LDR") = true) : (k.nm == Str.ofString "LDR") = k.load := by
  revert h; cases k <;> decide +kernel
theorem load_f {k : Kd} (h : (k.nm == Str.ofString "LDR") = false) : (k.nm == Str.ofString "LDB") = k.load := by
  revert h; cases k <;> decide +kernel
theorem store_t {k : Kd} (h : (k.nm == Str.ofString "STR") = true) : (k.nm == Str.ofString "STR") = k.store := by
  revert h; cases k <;> decide +kernel
theorem store_f {k : Kd} (h : (k.nm == Str.ofString "STR") = false) : (k.nm == Str.ofString "STB") = k.store := by
  revert h; cases k <;> decide +kernel

set_option maxRecDepth 100000 in
set_option maxHeartbeats 8000000 in
theorem bytes_tells : Cl 70 bytesC := by
  intro w mean mg mb
  refine tellsN_of fun d IH => ?_
  unfold TellsN
  intro dp un gd cn cs a ccd cl outer A₀ base h₀ L m news s vs Q E B F X N T hk hR hok hd hu hret
  clear IH
  obtain ⟨⟨hm⟩⟩ := hR
  rename_i a0 k d b o t1 t2 t3 t4 c
  refine wpAny_call ?_
  k_dflt ktr_enter
  k_steps
  · rename News _ _ _ _ => NN
    exact hret _ [] _ _ (by k_asm) (ktn_tl0 (cb_drop NN fun p hp => .tail _ hp)) ktn_ord0 rfl ⟨_, by rw [bytes_t (by assumption)]⟩
  · rename News _ _ _ _ => NN
    exact hret _ [] _ _ (by k_asm) (ktn_tl0 (cb_drop NN fun p hp => .tail _ hp)) ktn_ord0 rfl ⟨_, by rw [bytes_f (by assumption)]⟩

set_option maxRecDepth 100000 in
set_option maxHeartbeats 8000000 in
theorem mem_tells : Cl 28 memC := by
  intro w mean mg mb
  refine tellsN_of fun d IH => ?_
  unfold TellsN
  intro dp un gd cn cs a ccd cl outer A₀ base h₀ L m news s vs Q E B F X N T hk hR hok hd hu hret
  clear IH
  obtain ⟨⟨hm⟩⟩ := hR
  rename_i a0 k d b o t1 t2 t3 t4 c
  refine wpAny_call ?_
  k_dflt ktr_enter
  k_steps
  · rename News _ _ _ _ => NN
    exact hret _ [] _ _ (by k_asm) (ktn_tl0 (cb_drop NN fun p hp => .tail _ hp)) ktn_ord0 rfl (congrArg Value.bool (mem_any k))

set_option maxRecDepth 100000 in
set_option maxHeartbeats 8000000 in
theorem load_tells : Cl 35 loadC := by
  intro w mean mg mb
  refine tellsN_of fun d IH => ?_
  unfold TellsN
  intro dp un gd cn cs a ccd cl outer A₀ base h₀ L m news s vs Q E B F X N T hk hR hok hd hu hret
  clear IH
  obtain ⟨⟨hm⟩⟩ := hR
  rename_i a0 k d b o t1 t2 t3 t4 c
  refine wpAny_call ?_
  k_dflt ktr_enter
  k_steps
  · rename News _ _ _ _ => NN
    exact hret _ [] _ _ (by k_asm) (ktn_tl0 NN) ktn_ord0 rfl (congrArg Value.bool (load_t (by assumption)))
  · rename News _ _ _ _ => NN
    exact hret _ [] _ _ (by k_asm) (ktn_tl0 NN) ktn_ord0 rfl (congrArg Value.bool (load_f (by assumption)))

set_option maxRecDepth 100000 in
set_option maxHeartbeats 8000000 in
theorem store_tells : Cl 42 storeC := by
  intro w mean mg mb
  refine tellsN_of fun d IH => ?_
  unfold TellsN
  intro dp un gd cn cs a ccd cl outer A₀ base h₀ L m news s vs Q E B F X N T hk hR hok hd hu hret
  clear IH
  obtain ⟨⟨hm⟩⟩ := hR
  rename_i a0 k d b o t1 t2 t3 t4 c
  refine wpAny_call ?_
  k_dflt ktr_enter
  k_steps
  · rename News _ _ _ _ => NN
    exact hret _ [] _ _ (by k_asm) (ktn_tl0 NN) ktn_ord0 rfl (congrArg Value.bool (store_t (by assumption)))
  · rename News _ _ _ _ => NN
    exact hret _ [] _ _ (by k_asm) (ktn_tl0 NN) ktn_ord0 rfl (congrArg Value.bool (store_f (by assumption)))

set_option maxRecDepth 100000 in
set_option maxHeartbeats 8000000 in
theorem ctrl_tells : Cl 49 ctrlC := by
  intro w mean mg mb
  refine tellsN_of fun d IH => ?_
  unfold TellsN
  intro dp un gd cn cs a ccd cl outer A₀ base h₀ L m news s vs Q E B F X N T hk hR hok hd hu hret
  clear IH
  obtain ⟨⟨hm⟩⟩ := hR
  rename_i a0 k d b o t1 t2 t3 t4 c
  refine wpAny_call ?_
  k_dflt ktr_enter
  k_steps
  · rename News _ _ _ _ => NN
    exact hret _ [] _ _ (by k_asm) (ktn_tl0 (cb_drop NN fun p hp => .tail _ hp)) ktn_ord0 rfl (congrArg Value.bool (ctrl_any k))
end Mine

namespace Mine
inductive Row2 (news : List (Addr × Obj)) : List Value → RowD × RowD → Prop where
  | mk {v v' : Value} {r r' : RowD} : RowIn news v r → RowIn news v' r' → Row2 news [v, v'] (r, r')
def apartF (x y : RowD) : Bool :=
  if x.k.bytes = y.k.bytes then decide (x.k.bytes ≤ ((x.o - y.o).natAbs : Int))
  else if x.k.bytes = 1 then (decide (y.o + 4 ≤ x.o) || decide (x.o ≤ y.o - 4))
  else (decide (x.o + 4 ≤ y.o) || decide (y.o ≤ x.o - 4))
abbrev apartC : ToldN (RowD × RowD) where
  Rel := Row2
  Ok := fun _ => True
  size := fun _ => 2
  Tl := fun tl => tl = []
  Out := fun _ r d => r = .bool (apartF d.1 d.2)
local macro_rules | `(tactic| ktr_rel) => `(tactic| first
  | exact Row1.mk (RowIn.mk (by k_mem))
  | exact Row2.mk (RowIn.mk (by k_mem)) (RowIn.mk (by k_mem)))
set_option maxRecDepth 100000 in
set_option maxHeartbeats 8000000 in
theorem apart_tells : Cl 77 apartC := by
  intro w mean mg mb
  refine tellsN_of fun d IH => ?_
  unfold TellsN
  intro dp un gd cn cs a ccd cl outer A₀ base h₀ L m news s vs Q E B F X N T hk hR hok hd hu hret
  clear IH
  have Ct := bytes_tells w mean mg mb
  obtain ⟨⟨hm⟩, ⟨hm'⟩⟩ := hR
  k_with_none
  k_with "call ref" => ktn_call (Str.ofString "bytes_of") bytesC
  dsimp only [apartC] at *
  refine wpAny_call ?_
  k_dflt ktr_enter
  k_steps
  all_goals (first
      | exact hret _ [] _ _ (by k_asm) (ktn_tl0 (by k_asm)) ktn_ord0 rfl (by
          refine congrArg Value.bool ?_
          rw [Bool.eq_iff_iff]
          simp only [apartF]
          (repeat' split) <;> (first | omega | (simp only [decide_eq_true_eq, Bool.or_eq_true, Bool.false_eq_true, iff_false, false_iff, iff_true, true_iff]; omega) | ((try simp only [Bool.false_eq_true, false_iff, iff_false, decide_eq_true_eq, Bool.or_eq_true, not_or] at *); omega)))
      | exact hret _ [] _ _ (by k_asm) (ktn_tl0 (cb_drop (by assumption) (by kcj_all))) ktn_ord0 rfl (by
          refine congrArg Value.bool ?_
          rw [Bool.eq_iff_iff]
          simp only [apartF]
          (repeat' split) <;> (first | omega | (simp only [decide_eq_true_eq, Bool.or_eq_true, Bool.false_eq_true, iff_false, false_iff, iff_true, true_iff]; omega) | ((try simp only [Bool.false_eq_true, false_iff, iff_false, decide_eq_true_eq, Bool.or_eq_true, not_or] at *); omega))))
end Mine

namespace Mine
open PyProof.V PySem.Calls
section
variable {prog : Program} {w : World} {A : Around} {E : Value → Shared → Prop} {s : Shared} {env : Env} {h₀ : Heap} {target : Expr} {body : List Stmt} {Q : Flow → Shared → Prop}
theorem letGo_rangeiter {E : Value → Shared → Prop} {target : Expr} {I : Addr} {x left step : Int} {v : Value} {Q' : Unit → Shared → Prop} {s' : Shared} (hit : IsRangeIter s'.heap I x left step) (h : Q' () s') :
    wpAny (model prog w) A (letOwnedTupleGo target (.ref I) v) Q' E s' := by
  unfold letOwnedTupleGo
  cases target <;> first
    | exact wpAny_pure h
    | (cases v <;> first
        | exact wpAny_pure h
        | (refine wpAny_bind (wpAny_load hit ?_)
           exact wpAny_pure h))
theorem iter_rangeT {r : Addr} {a₀ b₀ : Int} {t₀ u₀ v₀ : Tok} {n : Nat} {m₀ : Str → Option Value} {news : List (Addr × Obj)}
    (hh : A.handled = none) (hr : IsRange s.heap r a₀ b₀ 1 t₀ u₀ v₀) (hsmall : Builtin.Range.small a₀ b₀ 1 = true) (hn : Builtin.Range.rangeSize a₀ b₀ 1 = (n : Int)) (F : Fr h₀ env.locals s.heap m₀) (N : News h₀ env.locals s.heap news)
    (J : Nat → (Str → Option Value) → List (Addr × Obj) → Prop) (h0 : J 0 m₀ news)
    (step : ∀ I : Addr, (∀ p ∈ news, p.1 < I) → ∀ (i : Nat) t m₁ news₁ h₁ tk₁, i < n → J i m₁ news₁ → (∀ p ∈ news₁, p.1 ≠ I) → Fr h₀ env.locals h₁ m₁ → News h₀ env.locals h₁ ((I, itR (a₀ + ((i + 1 : Nat) : Int)) ((n : Int) - ((i + 1 : Nat) : Int))) :: news₁) →
      wpAny (model prog w) A (assign target env (.int (a₀ + (i : Int)) t)) (fun _ s₃ => wpAny (model prog w) A (execs body env)
        (UnrPost h₀ env.locals { s with heap := h₁, toks := tk₁ } I (itR (a₀ + ((i + 1 : Nat) : Int)) ((n : Int) - ((i + 1 : Nat) : Int))) (J (i + 1)) Q) E s₃) E { s with heap := h₁, toks := tk₁ })
    (done : ∀ h' tk m' news', Fr h₀ env.locals h' m' → News h₀ env.locals h' news' → J n m' news' → Q .next { s with heap := h', toks := tk }) :
    wpAny (model prog w) A (pyIter (.ref r)) (fun it s₂ => TurnsAt prog w A h₀ env target body Q E it s₂) E s := by
  refine wpAny_pyIter_range hr hsmall ?_
  have lt0 : ∀ p ∈ news, p.1 < s.heap.objs.size := fun p hp => Heap.lt_size (N p hp).1
  have W := KTurns.ofWalks (target := target) (Walks.range (prog := prog) (w := w) (A := A) hh s.heap.objs.size a₀ 1 n).bound fun i v s Q E st q => letGo_rangeiter (target := target) st q
  have hnew := next_is_new F
  refine ⟨s.heap.objs.size, [s.heap.objs.size], [s.heap.objs.size], n, _, _, _, m₀, news, J, rfl, W, ?_, ?_, ?_, (by show IsRangeIter _ _ _ _ _; rw [hn]; simpa using Heap.get?_push_size _ rfl), F.push _, (fun p hp => ⟨Heap.get?_push_of_some _ (N p hp).1, (N p hp).2⟩), h0, ?_, ?_⟩
  · intro hm
    exact absurd F.ns.lt ((List.mem_singleton.mp hm) ▸ Nat.lt_irrefl _)
  · intro b hb
    rw [List.mem_singleton.mp hb]
    exact hnew
  · intro p hp hI
    exact absurd (Heap.lt_size (N p hp).1) ((List.mem_singleton.mp hI) ▸ Nat.lt_irrefl _)
  · rintro i v m₁ news₁ h₁ tk₁ own hin ⟨_, t, rfl⟩ hJ hoff hown hget hall hst F₁ N₁
    have hst' : h₁.get? s.heap.objs.size = some (itR (a₀ + ((i + 1 : Nat) : Int)) ((n : Int) - ((i + 1 : Nat) : Int))) := by
      have q : IsRangeIter h₁ s.heap.objs.size (a₀ + ((i + 1 : Nat) : Int) * 1) ((n : Int) - ((i + 1 : Nat) : Int)) 1 := hst
      rw [Int.mul_one] at q
      exact q
    have hmem := hall s.heap.objs.size (List.mem_singleton.mpr rfl) hnew _ hst'
    have e1 : a₀ + (i : Int) * 1 = a₀ + (i : Int) := by rw [Int.mul_one]
    rw [e1]
    have N₂ : News h₀ env.locals h₁ ((s.heap.objs.size, itR (a₀ + ((i + 1 : Nat) : Int)) ((n : Int) - ((i + 1 : Nat) : Int))) :: news₁) := fun p hp => by
      rcases List.mem_cons.mp hp with rfl | hp
      · exact N₁ _ (List.mem_append_left _ hmem)
      · exact N₁ _ (List.mem_append_right _ hp)
    refine wpAny_mono (step s.heap.objs.size lt0 i t m₁ news₁ h₁ tk₁ hin hJ (fun p hp e => hoff p hp (List.mem_singleton.mpr e)) F₁ N₂) (fun _ s₃ q => wpAny_mono q (fun f s₂ p => ?_) fun _ _ e => e) fun _ _ e => e
    have fin : UnrEnd h₀ env.locals { s with heap := h₁, toks := tk₁ } s.heap.objs.size (itR (a₀ + ((i + 1 : Nat) : Int)) ((n : Int) - ((i + 1 : Nat) : Int))) (J (i + 1)) s₂ →
        LoopStepU h₀ env.locals [s.heap.objs.size] own (J (i + 1)) { s with heap := h₁, toks := tk₁ } .next s₂ := by
      rintro ⟨h', tk, m', news', e, F', N', ho, r⟩
      refine ⟨rfl, h', tk, m', news', e, F', fun p hp => ?_, fun p hp hI => ho p hp (List.mem_singleton.mp hI), r⟩
      rcases List.mem_append.mp hp with hp | hp
      · have h1 : p.1 = s.heap.objs.size := List.mem_singleton.mp (hown p hp)
        have h2 : h₁.get? p.1 = some p.2 := hget p hp
        have h3 : p = (s.heap.objs.size, itR (a₀ + ((i + 1 : Nat) : Int)) ((n : Int) - ((i + 1 : Nat) : Int))) := by
          rw [h1, hst'] at h2
          exact Prod.ext h1 (Option.some.inj h2).symm
        rw [h3]; exact N' _ (List.mem_cons_self ..)
      · exact N' _ (List.mem_cons_of_mem _ hp)
    cases f with
    | ret v => exact .ret p
    | brk => exact .brk p
    | next => exact .next (fin p)
    | cont => exact .cont (fin p)
  · intro h' tk m' news' F' N' _ hJ
    exact done h' tk m' news' F' N' hJ
theorem iter_cell {r : Addr} {a₀ b₀ : Int} {t₀ u₀ v₀ : Tok} {n : Nat} {m₀ : Str → Option Value} {cb : Addr} {ob₀ : Obj} {vv : Option Value} {rest : List (Addr × Obj)}
    (hh : A.handled = none) (hr : IsRange s.heap r a₀ b₀ 1 t₀ u₀ v₀) (hsmall : Builtin.Range.small a₀ b₀ 1 = true) (hn : Builtin.Range.rangeSize a₀ b₀ 1 = (n : Int)) (F : Fr h₀ env.locals s.heap m₀) (N : News h₀ env.locals s.heap ((cb, ob₀) :: rest)) (hc : ob₀.data = .cell vv)
    (P : Nat → Prop) (h0 : P 0)
    (step : ∀ I : Addr, @LT.lt Nat _ cb I → AllLt I rest → (∀ p ∈ rest, p.1 < I) → ∀ (i : Nat) t ob v₁ h₁ tk₁, i < n → P i → ob.data = .cell v₁ → Fr h₀ env.locals h₁ m₀ → News h₀ env.locals h₁ ((I, itR (a₀ + ((i + 1 : Nat) : Int)) ((n : Int) - ((i + 1 : Nat) : Int))) :: (cb, ob) :: rest) →
      wpAny (model prog w) A (assign target env (.int (a₀ + (i : Int)) t)) (fun _ s₃ => wpAny (model prog w) A (execs body env)
        (UnrPost h₀ env.locals { s with heap := h₁, toks := tk₁ } I (itR (a₀ + ((i + 1 : Nat) : Int)) ((n : Int) - ((i + 1 : Nat) : Int))) (fun m' n' => m' = m₀ ∧ (∃ ob v, ob.data = .cell v ∧ n' = (cb, ob) :: rest) ∧ P (i + 1)) Q) E s₃) E { s with heap := h₁, toks := tk₁ })
    (done : ∀ h' tk ob v, ob.data = .cell v → Fr h₀ env.locals h' m₀ → News h₀ env.locals h' ((cb, ob) :: rest) → P n → Q .next { s with heap := h', toks := tk }) :
    wpAny (model prog w) A (pyIter (.ref r)) (fun it s₂ => TurnsAt prog w A h₀ env target body Q E it s₂) E s := by
  refine iter_rangeT hh hr hsmall hn F N (fun i m' n' => m' = m₀ ∧ (∃ ob v, ob.data = .cell v ∧ n' = (cb, ob) :: rest) ∧ P i) ⟨rfl, ⟨ob₀, vv, hc, rfl⟩, h0⟩ ?_ ?_
  · intro I hI i t m₁ news₁ h₁ tk₁ hi hJ hne F₁ N₁
    obtain ⟨rfl, ⟨ob, v, hd, rfl⟩, hP⟩ := hJ
    exact step I (hI (cb, ob₀) (.head _)) (allLt_of fun p hp => hI p (.tail _ hp)) (fun p hp => hI p (.tail _ hp)) i t ob v h₁ tk₁ hi hP hd F₁ N₁
  · intro h' tk m' news' F' N' hJ
    obtain ⟨rfl, ⟨ob, v, hd, rfl⟩, hP⟩ := hJ
    exact done h' tk ob v hd F' N' hP
theorem cell_end {L I cb : Addr} {it ob : Obj} {v : Option Value} {s₁ : Shared} {h' : Heap} {tk : Nat} {m₀ : Str → Option Value} {all rest : List (Addr × Obj)} {P : Prop} (F : Fr h₀ L h' m₀) (N : News h₀ L h' all)
    (hI : (I, it) ∈ all) (hcb : (cb, ob) ∈ all) (hr : ∀ p ∈ rest, p ∈ all) (h1 : @LT.lt Nat _ cb I) (h2 : ∀ p ∈ rest, p.1 < I) (hd : ob.data = .cell v) (hP : P) :
    UnrEnd h₀ L s₁ I it (fun m' n' => m' = m₀ ∧ (∃ ob v, ob.data = .cell v ∧ n' = (cb, ob) :: rest) ∧ P) { s₁ with heap := h', toks := tk } :=
  UnrEnd.intro F N ((cb, ob) :: rest) (fun p hp => by
    rcases List.mem_cons.mp hp with rfl | hp
    · exact hI
    · rcases List.mem_cons.mp hp with rfl | hp
      · exact hcb
      · exact hr p hp) (fun p hp e => by
    rcases List.mem_cons.mp hp with rfl | hp
    · exact absurd (e ▸ h1 : @LT.lt Nat _ I I) (Nat.lt_irrefl _)
    · exact absurd (e ▸ h2 p hp : @LT.lt Nat _ I I) (Nat.lt_irrefl _)) ⟨rfl, ⟨ob, v, hd, rfl⟩, hP⟩
end
end Mine

namespace Mine
open PyProof.V PySem.Calls
inductive RowAt (news : List (Addr × Obj)) : List Value → RowD × Int → Prop where
  | mk {v : Value} {r : RowD} {i : Int} {t : Tok} : RowIn news v r → RowAt news [v, .int i t] (r, i)
def Kd.byte : Kd → Bool | .ldb | .stb => true | _ => false
theorem Kd.byte_any (k : Kd) : (["LDB", "STB"].any fun x => Str.ofString x == k.nm) = k.byte := by cases k <;> decide +kernel
def touchedF (k : Kd) (x : Int) : List Int :=
  if k.byte = true then [x] else [x - x.fmod 4, x - x.fmod 4 + 1, x - x.fmod 4 + 2, x - x.fmod 4 + 3]
abbrev touchedC : ToldN (RowD × Int) where
  Rel := RowAt
  Ok := fun _ => True
  size := fun _ => 1
  Tl := ktnAny
  Out := fun nw r d => ∃ a vs, r = .ref a ∧ (a, listOf vs.toArray 0) ∈ nw ∧ IntsAre vs (touchedF d.1.k (d.2 + d.1.o))
theorem touched_byte {k : Kd} {x : Int} {t : Tok} (h : k.byte = true) : IntsAre [.int x t] (touchedF k x) := by
  rw [touchedF, if_pos h]; exact .cons _ _ .nil
theorem touched_word {k : Kd} {x : Int} {t₁ t₂ t₃ t₄ : Tok} (h : k.byte = false) : IntsAre [.int (x - x.fmod 4) t₁, .int (x - x.fmod 4 + 1) t₂, .int (x - x.fmod 4 + 2) t₃, .int (x - x.fmod 4 + 3) t₄] (touchedF k x) := by
  rw [touchedF, if_neg (by rw [h]; decide)]; exact .cons _ _ (.cons _ _ (.cons _ _ (.cons _ _ .nil)))
theorem news_swap {h₀ h : Heap} {L a : Addr} {o : Obj} {q : Addr × Obj} {news : List (Addr × Obj)} (N : News h₀ L h ((a, o) :: q :: news)) : News h₀ L h (news ++ [(a, o)]) := fun p hp => N p ((List.mem_append.mp hp).elim (fun h => .tail _ (.tail _ h)) fun h => by rw [List.mem_singleton.mp h]; exact .head _)
theorem ord_lt {a b : Nat} {o : Obj} {news : List (Addr × Obj)} (h : AllLt a news) : ∀ q ∈ news, ∀ p ∈ [(a, o)], @LT.lt Nat _ q.1 p.1 := ktn_ord1 h
set_option maxRecDepth 100000 in
set_option maxHeartbeats 8000000 in
theorem touched_tells : Cl 105 touchedC := by
  intro w mean mg mb
  refine tellsN_of fun d IH => ?_
  unfold TellsN
  intro dp un gd cn cs a ccd cl outer A₀ base h₀ L m news s vs Q E B F X N T hk hR hok hd hu hret
  clear IH
  obtain ⟨⟨hm⟩⟩ := hR
  k_with_none
  dsimp only [touchedC] at *
  refine wpAny_call ?_
  k_dflt ktr_enter
  k_steps
  · refine hret _ [_] _ _ (by k_asm) (news_swap (by assumption)) (ktn_ord1 (And.right (by assumption))) True.intro ⟨_, [.int _ _], rfl, List.mem_append.mpr (.inr (.head _)), touched_byte ?_⟩
    rw [← Kd.byte_any]; assumption
  · refine hret _ [_] _ _ (by k_asm) (news_swap (by assumption)) (ktn_ord1 (And.right (by assumption))) True.intro ⟨_, [.int _ _, .int _ _, .int _ _, .int _ _], rfl, List.mem_append.mpr (.inr (.head _)), touched_word ?_⟩
    rw [← Kd.byte_any]; assumption
end Mine

namespace Mine
open PyProof.V PySem.Calls
section
variable {prog : Program} {w : World} {A : Around} {s : Shared} {h₀ : Heap} {L : Addr} {m : Str → Option Value} {env : Env}
theorem CompEnd.mono {I C D : Addr} {oI oC oD : Obj} {S : List (Addr × Obj) → Prop} {r r' : Value → List (Addr × Obj) → Prop} {y : Value} {s₁ s₂ : Shared} (h : LCg.CompEnd h₀ L m s₁ I oI C oC D oD S r y s₂) (k : ∀ n', r y n' → r' y n') :
    LCg.CompEnd h₀ L m s₁ I oI C oC D oD S r' y s₂ := by
  obtain ⟨h', tk, n', e, F, N, o, hS, hr⟩ := h
  exact ⟨h', tk, n', e, F, N, o, hS, k _ hr⟩
theorem ints_snoc : ∀ {ys : List Value} {ms : List Int} {k : Int} {t : Tok}, IntsAre ys ms → IntsAre (ys ++ [.int k t]) (ms ++ [k])
  | _, _, _, _, .nil => .cons _ _ .nil
  | _, _, _, _, .cons n t h => .cons n t (ints_snoc h)
theorem compT_go {ct elt : Expr} {x : Str} {scope : Scope} {cl : List (Str × Addr)} {S : List (Addr × Obj) → Prop} {Fin : List Value → List (Addr × Obj) → Prop} {vs : List Value} {ns : List Int} {news : List (Addr × Obj)} (hv : IntsAre vs ns) (p : Int → Bool)
    (step : ∀ (k : Int) (t : Tok) (ys : List Value) I oI C oC D m₂ h tk (E' : Value → Shared → Prop), LCg.NsObj oC m₂ → m₂ x = some (.int k t) → Fr h₀ L h m → News h₀ L h ((I, oI) :: (C, oC) :: (D, LCg.lst ys) :: news) → LCg.Off3 I C D news → ((@Ne Nat I C) ∧ (@Ne Nat I D) ∧ (@Ne Nat C D)) →
      wpAny (model prog w) A (isTrue ct (compEnvC scope cl C env) (eval ct (compEnvC scope cl C env))) (fun ok s' => if ok = true then
        wpAny (model prog w) A (eval elt (compEnvC scope cl C env)) (LCg.CompEnd h₀ L m { s with heap := h, toks := tk } I oI C oC D (LCg.lst ys) S (fun y news' => news' = news ∧ p k = true ∧ ∃ t, y = .int k t)) E' s'
        else LCg.CompEnd h₀ L m { s with heap := h, toks := tk } I oI C oC D (LCg.lst ys) S (fun _ news' => news' = news ∧ p k = false) Value.none s') E' { s with heap := h, toks := tk })
    (fin : ∀ ys, IntsAre ys (ns.filter p) → Fin ys news) :
    ∀ (rem i : Nat) (ys : List Value), i + rem = vs.length → IntsAre ys ((ns.take i).filter p) → LCt.CompRestT prog w A h₀ L m env ct elt x scope cl s S (fun i v => vs.toArray[i]? = some v) Fin rem i ys news := by
  intro rem
  induction rem with
  | zero =>
    intro i ys hi hy
    refine LCt.CompRestT.zero (fin ys ?_)
    rw [List.take_of_length_le (by rw [← hv.length]; omega)] at hy
    exact hy
  | succ rem ih =>
    intro i ys hi hy
    refine LCt.CompRestT.succ ?_
    intro v I oI C oC D m₂ h tk E' hP hC hx F N off ne
    have hP' : vs[i]? = some v := by simpa using hP
    obtain ⟨k, t, rfl, hk⟩ := hv.at i v hP'
    have htake : (ns.take (i + 1)).filter p = (ns.take i).filter p ++ (if p k then [k] else []) := by
      rw [List.take_add_one, hk, Option.toList_some, List.filter_append]
      congr 1
      cases hp : p k <;> simp [hp]
    refine wpAny_mono (step k t ys I oI C oC D m₂ h tk E' hC hx F N off ne) (fun ok s' q => ?_) fun _ _ e => e
    cases ok with
    | true =>
      simp only [if_true] at q ⊢
      refine wpAny_mono q (fun y s₂ q => ?_) fun _ _ e => e
      refine CompEnd.mono q fun n' ⟨e1, e2, t', e3⟩ => ?_
      subst e1; subst e3
      refine ih (i + 1) _ (by omega) ?_
      rw [htake, e2, if_pos rfl]
      exact ints_snoc hy
    | false =>
      simp only [Bool.false_eq_true, if_false] at q ⊢
      refine CompEnd.mono q fun n' ⟨e1, e2⟩ => ?_
      subst e1
      refine ih (i + 1) _ (by omega) ?_
      rw [htake, e2]
      simpa using hy
theorem srcT_ints {ct elt : Expr} {x : Str} {scope : Scope} {cl : List (Str × Addr)} {Fin : Shared → List Value → List (Addr × Obj) → Prop} {ax : Addr} {vs : List Value} {ns : List Int} {c : Nat} {news : List (Addr × Obj)} {s₁ : Shared}
    (hh : A.handled = none) (F : Fr h₀ L s₁.heap m) (N : News h₀ L s₁.heap news) (hm : (ax, listOf vs.toArray c) ∈ news) (hv : IntsAre vs ns) (hsz : ns.length ≤ 64) (p : Int → Bool)
    (step : ∀ (g : Heap) (k : Int) (t : Tok) (ys : List Value) I oI C oC D m₂ h tk (E' : Value → Shared → Prop), LCg.NsObj oC m₂ → m₂ x = some (.int k t) → Fr h₀ L h m → News h₀ L h ((I, oI) :: (C, oC) :: (D, LCg.lst ys) :: news) → LCg.Off3 I C D news → ((@Ne Nat I C) ∧ (@Ne Nat I D) ∧ (@Ne Nat C D)) →
      wpAny (model prog w) A (isTrue ct (compEnvC scope cl C env) (eval ct (compEnvC scope cl C env))) (fun ok s' => if ok = true then
        wpAny (model prog w) A (eval elt (compEnvC scope cl C env)) (LCg.CompEnd h₀ L m { s₁ with heap := h, toks := tk } I oI C oC D (LCg.lst ys) (LCg.SrcAt h₀ ax vs.toArray) (fun y news' => news' = news ∧ p k = true ∧ ∃ t, y = .int k t)) E' s'
        else LCg.CompEnd h₀ L m { s₁ with heap := h, toks := tk } I oI C oC D (LCg.lst ys) (LCg.SrcAt h₀ ax vs.toArray) (fun _ news' => news' = news ∧ p k = false) Value.none s') E' { s₁ with heap := h, toks := tk })
    (fin : ∀ g ys, IntsAre ys (ns.filter p) → Fin { s₁ with heap := g } ys news) :
    LCt.CompSrcT prog w A h₀ L m env ct elt x scope cl Fin (.ref ax) s₁ := by
  have hl : vs.toArray.size ≤ sizeLine := by
    rw [List.size_toArray, hv.length, sizeLine_eq]; omega
  refine LCt.CompSrcT.ledger hh F N hm hl fun g => ?_
  have := compT_go (prog := prog) (w := w) (A := A) (s := { s₁ with heap := g }) (h₀ := h₀) (L := L) (m := m) (env := env) (ct := ct) (elt := elt) (x := x) (scope := scope) (cl := cl) (S := LCg.SrcAt h₀ ax vs.toArray) (Fin := Fin { s₁ with heap := g }) (news := news) hv p (step g) (fin g) vs.length 0 [] (by omega) (by simpa using IntsAre.nil)
  rw [List.size_toArray]
  exact this
end
end Mine

namespace Mine
open PyProof.V PySem.Calls
def Halt (P : Prop) : Prop := P
theorem Halt.out {P : Prop} (h : Halt P) : P := h
theorem Halt.mk {P : Prop} (h : P) : Halt P := h
theorem news_tl {h₀ h : Heap} {L : Addr} {p : Addr × Obj} {news tl : List (Addr × Obj)} (N : News h₀ L h (news ++ tl)) (hm : p ∈ news ++ tl) : News h₀ L h (p :: news) := fun q hq => by
  rcases List.mem_cons.mp hq with rfl | hq
  · exact N _ hm
  · exact N _ (List.mem_append_left _ hq)
def meetF (r r' : RowD) (b : Int) : List Int := (touchedF r.k (b + r.o)).filter fun k => (touchedF r'.k (b + r'.o)).any (· == k)
def neverF (r r' : RowD) : Bool := decide (∀ i : Nat, i < 4 → meetF r r' (1000 + (i : Int)) = [])
abbrev neverC : ToldN (RowD × RowD) where
  Rel := Row2
  Ok := fun _ => True
  size := fun _ => 12
  Tl := fun tl => tl = []
  Out := fun _ r d => r = .bool (neverF d.1 d.2)
theorem memL {x : Addr × Obj} {l : List (Addr × Obj)} (h : x ∈ l) : List.Mem x l := h
local macro_rules | `(tactic| k_mem) => `(tactic| exact memL (by assumption))
local macro_rules | `(tactic| ktr_rel) => `(tactic| exact RowAt.mk (RowIn.mk (by k_mem)))
local macro_rules | `(tactic| walk_at "exec For Name Call cons nil") => `(tactic| (k_here; (rename Fr _ _ _ _ => lF'); (with_unfolding_all refine' For_turns lF' ?_; k_whole)))
local macro_rules | `(tactic| walk_at "eval ListComp") => `(tactic| (k_here; k_dflt (refine LCt.ListComp_T (F₀ := by k_asm) (by with_unfolding_all rfl) (by decide) (by rfl) (by decide) (by rfl) ?_)))
local macro_rules | `(tactic| walk_at "CompSrcT") => `(tactic| refine Halt.out ?_)
local macro_rules | `(tactic| walk_at "CompEnd") => `(tactic| refine Halt.out ?_)
local macro_rules | `(tactic| walk_at "UnrEnd") => `(tactic| refine Halt.out ?_)
local macro_rules | `(tactic| walk_at "call ref") => `(tactic| (k_here; k_dflt (refine' tellsN_use ?k1 ?k2 ?k3 ?k4 ?k5 ?kK ?kR (touched_tells _ _ _ _ _) ?ko ?kd ?ku ?_; (case k1 => k_asm); (case k2 => k_asm); (case k3 => k_asm); (case k4 => k_asm); (case k5 => k_asm); (case kK => first | exact rfl | assumption); (case kR => ktr_rel); (case ko => trivial); (case kd => (dsimp only; ktr_room)); (case ku => (dsimp only; ktr_units)); intro r9 tl9 h9 tk9 F9 N9 hl9 ht9 ho9; (obtain ⟨a9, vs9, e9, hm9, hi9⟩ := ho9); subst e9; (have N10 := news_tl N9 hm9); clear N9 hm9 hl9 ht9; (try dsimp only); (try dsimp only at hi9); (try k_fold))))
theorem tail_ne {news : List (Addr × Obj)} {b c : Nat} (h : ∀ p ∈ news, @LT.lt Nat _ p.1 b) (hb : b ≤ c) : ∀ p ∈ news, p.1 ≠ c := fun p hp e => Nat.lt_irrefl c (Nat.lt_of_lt_of_le (e ▸ h p hp) hb)
local macro_rules | `(tactic| k_all) => `(tactic| (refine' tail_ne (by assumption) ?_; omega))
set_option maxRecDepth 100000 in
set_option maxHeartbeats 8000000 in
theorem never_tells : Cl 117 neverC := by
  intro w mean mg mb
  refine tellsN_of fun d IH => ?_
  unfold TellsN
  intro dp un gd cn cs a ccd cl outer A₀ base h₀ L m news s vs Q E B F X N T hk hR hok hd hu hret
  clear IH
  obtain ⟨⟨hm⟩, ⟨hm'⟩⟩ := hR
  rename_i a1 k1 d1 b1 o1 _ _ _ _ _ a2 k2 d2 b2 o2 _ _ _ _ _
  k_with_none
  dsimp only [neverC] at *
  refine wpAny_call ?_
  k_dflt (refine' code_defC ?k1 ?k2 ?k3 ?k4 ?k5 ?kA ?kF ?kK ?k6 ?k7 ?k8 ?k9 ?kB ?kD ?_ ?c2 ?c3 ?c4; (case kA => exact rfl); (case kF => exact rfl); (case kK => assumption); (case k1 => k_asm); (case k2 => k_asm); (case k3 => k_asm); (case k4 => k_asm); (case k5 => k_asm); (case k6 => k_is); (case k7 => k_is); (case k8 => ktr_room); (case k9 => exact BindsTo.of_eq rfl); (case kB => exact rfl); (case kD => decide +kernel); (case c2 => exact rfl); (case c3 => exact rfl); (case c4 => exact rfl); k_whole; intro g' L' h' tk' cells' FG' F' N' Y' B' X' T' l1; (try k_lt l1); k_cells Y'; (try simp only [List.cons_append, List.nil_append] at N'); (try dsimp only); (try k_lift B'); (try k_fold))
  k_steps
  rename IsRange _ _ _ _ _ _ _ _ => hr'
  rename Fr _ _ _ _ => FF
  rename News _ _ _ _ => NN
  rename Obj.data _ = Data.cell (bindC _ _ _ "base") => hcb
  k_dflt (refine' iter_cell (n := 4) ?a hr' ?b ?c FF NN hcb (fun i => ∀ j : Nat, j < i → meetF ⟨k1, d1, b1, o1⟩ ⟨k2, d2, b2, o2⟩ (1000 + (j : Int)) = []) ?z ?step ?done)
  (case a => rfl)
  (case b => decide)
  (case c => decide)
  (case z => intro j hj; exact absurd hj (Nat.not_lt_zero _))
  (case step =>
    intro I lI1 lI2 lI3 i t ob v₁ h₁ tk₁ hi hP hd1 F1 N1
    clear FF NN hr' hcb
    change Fr g' L' _ _ at F1
    change News g' L' _ _ at N1
    k_steps
    rename News _ _ _ _ => N10
    rename IntsAre _ _ => hi1
    unfold Halt
    k_dflt (refine' srcT_ints ?hh ?F ?N ?m hi1 ?sz (fun k => (touchedF k2 (1000 + (i : Int) + o2)).any (· == k)) ?stp ?fin)
    (case hh => rfl)
    (case F => k_asm)
    (case N => exact N10)
    (case m => exact .head _)
    (case sz => unfold touchedF; split <;> simp)
    (case stp =>
      intro g k t ys I oI C oC D m₂ h tk E' hC hx F N off ne
      k_steps
      all_goals (unfold Halt; rename News _ _ _ _ => NN)
      · exact LCg.CompEnd.intro (by k_asm) NN _ (fun p hp => .tail _ hp) off (.inr ⟨_, .head _, rfl, _, rfl⟩) ⟨rfl, by assumption, _, rfl⟩
      · exact LCg.CompEnd.intro (by k_asm) NN _ (fun p hp => .tail _ hp) off (.inr ⟨_, .head _, rfl, _, rfl⟩) ⟨rfl, by assumption⟩)
    (case fin =>
      intro g ys hy
      unfold LCg.FinE
      intro D h tk F N off
      k_steps
      · unfold Halt
        rename News _ _ _ _ => NN
        rename Fr _ _ _ _ => FF
        have hmeet := of_decide_eq_true (by assumption)
        exact cell_end FF NN (.tail _ (.tail _ (.tail _ (.head _)))) (.tail _ (.tail _ (.tail _ (.tail _ (.head _))))) (fun p hp => .tail _ (.tail _ (.tail _ (.tail _ (.tail _ hp))))) lI1 lI3 (by assumption) (fun j hj => (Nat.lt_succ_iff_lt_or_eq.mp hj).elim (hP j) fun e => e ▸ hmeet)
      · rename News _ _ _ _ => NN
        have hmeet := of_decide_eq_false (by assumption)
        exact hret _ [] _ _ (by k_asm) (ktn_tl0 (cb_drop NN fun p hp => .tail _ (.tail _ (.tail _ (.tail _ (.tail _ (.tail _ hp))))))) ktn_ord0 rfl (by rw [neverF, decide_eq_false fun hall => hmeet (hall i hi)])))
  (case done =>
    intro h2 tk2 ob v hd1 F1 N1 hP
    clear FF NN hr' hcb
    k_steps
    exact hret _ [] _ _ (by k_asm) (ktn_tl0 (cb_drop (by assumption) (fun p hp => .tail _ (.tail _ hp)))) ktn_ord0 rfl (by rw [neverF, decide_eq_true]; exact hP))
end Mine

namespace Mine
open PyProof.V PySem.Calls
def kOf (k : Int) : Kd := if k = 0 then .ldr else if k = 1 then .sto else if k = 2 then .ldb else .stb
theorem menu4 {k : Int} (h0 : 0 ≤ k) (h4 : k < 4) (t0 t1 t2 t3 : Tok) : ∃ t, [Value.str (Str.ofString "LDR") t0, .str (Str.ofString "STR") t1, .str (Str.ofString "LDB") t2, .str (Str.ofString "STB") t3][k.toNat]? = some (.str (kOf k).nm t) := by
  have h : k = 0 ∨ k = 1 ∨ k = 2 ∨ k = 3 := by omega
  rcases h with rfl | rfl | rfl | rfl
  · exact ⟨_, rfl⟩
  · exact ⟨_, rfl⟩
  · exact ⟨_, rfl⟩
  · exact ⟨_, rfl⟩
theorem kOf_mem (k : Int) : (kOf k).mem = true := by unfold kOf; (repeat' split) <;> rfl
def RowOut (nw : List (Addr × Obj)) (r : Value) (P : Kd → Int → Int → Prop) : Prop :=
  ∃ a k d b o t1 t2 t3 t4 c, r = .ref a ∧ nw.getLast? = some (a, tupObj k d b o t1 t2 t3 t4 c) ∧ P k d b
theorem last_one {news : List (Addr × Obj)} {p : Addr × Obj} : (news ++ [p]).getLast? = some p := by simp
inductive RowArg : List Value → Int × Int → Prop where
  | mk {x y : Int} {t t' : Tok} : RowArg [.int x t, .int y t'] (x, y)
inductive BetArg : List Value → Int → Prop where
  | mk {x : Int} {t : Tok} : BetArg [.int x t] x
abbrev rowC : ToldN (Int × Int) where
  Rel := fun _ => RowArg
  Ok := fun d => 0 ≤ d.1 ∧ 0 ≤ d.2
  size := fun _ => 1
  Tl := fun tl => ∃ p, tl = [p]
  Out := fun nw r _ => RowOut nw r fun k d b => k.mem = true ∧ 0 ≤ d ∧ d ≤ 3 ∧ 4 ≤ b ∧ b ≤ 5
abbrev betC : ToldN Int where
  Rel := fun _ => BetArg
  Ok := fun d => 0 ≤ d
  size := fun _ => 1
  Tl := fun tl => ∃ p, tl = [p]
  Out := fun nw r _ => RowOut nw r fun k d _ => k ≠ .stb ∧ 0 ≤ d ∧ d ≤ 5
theorem fm_b {x : Int} {n : Int} (h : 0 < n) : 0 ≤ x.fmod n ∧ x.fmod n < n := ⟨Int.fmod_nonneg_of_pos x h, Int.fmod_lt_of_pos x h⟩
set_option maxRecDepth 100000 in
set_option maxHeartbeats 8000000 in
theorem row_tells : Cl 112 rowC := by
  intro w mean mg mb
  refine tellsN_of fun d IH => ?_
  unfold TellsN
  intro dp un gd cn cs a ccd cl outer A₀ base h₀ L m news s vs Q E B F X N T hk hR hok hd hu hret
  clear IH
  cases hR
  rename_i x y t t'
  obtain ⟨ok1, ok2⟩ := hok
  k_with_none
  dsimp only [rowC] at *
  refine wpAny_call ?_
  k_dflt ktr_enter
  k_steps
  rename News _ _ _ _ => NN
  obtain ⟨t9, ht9⟩ := menu4 (Int.fmod_nonneg_of_pos x (by decide : (0 : Int) < 4)) (Int.fmod_lt_of_pos x (by decide : (0 : Int) < 4)) _ _ _ _
  k_dflt (refine' item_litK ⟨_, (NN _ (.head _)).1, rfl, _, rfl⟩ (Int.fmod_nonneg_of_pos x (by decide : (0 : Int) < 4)) ?_ ht9 ?_ ?_)
  · have := Int.fmod_lt_of_pos x (by decide : (0 : Int) < 4); omega
  · k_steps
    rename News _ _ _ _ => NN
    exact hret _ [_] _ _ (by k_asm) (news_swap NN) (ktn_ord1 (And.right (by assumption))) ⟨_, rfl⟩ ⟨_, _, _, _, _, _, _, _, _, _, rfl, last_one, kOf_mem _, (fm_b (by decide)).1, Int.le_of_lt_add_one (fm_b (by decide : (0 : Int) < 4)).2, Int.le_add_of_nonneg_right (fm_b (by decide)).1, by have := (fm_b (x := x.fdiv 16) (by decide : (0 : Int) < 2)).2; omega⟩
  · exact rfl
theorem ord_of {b : Nat} {o : Obj} {news : List (Addr × Obj)} (h : ∀ p ∈ news, @LT.lt Nat _ p.1 b) : ∀ q ∈ news, ∀ p ∈ [(b, o)], @LT.lt Nat _ q.1 p.1 := by
  intro q hq p hp
  rw [List.mem_singleton.mp hp]
  exact h q hq
set_option maxRecDepth 100000 in
set_option maxHeartbeats 8000000 in
theorem bet_tells : Cl 124 betC := by
  intro w mean mg mb
  refine tellsN_of fun d IH => ?_
  unfold TellsN
  intro dp un gd cn cs a ccd cl outer A₀ base h₀ L m news s vs Q E B F X N T hk hR hok hd hu hret
  clear IH
  cases hR
  rename_i t
  k_with_none
  dsimp only [betC] at *
  refine wpAny_call ?_
  k_dflt ktr_enter
  k_steps
  · rename News _ _ _ _ => NN
    exact hret _ [_] _ _ (by k_asm) (ktn_tl1 NN) (ord_of (by assumption)) ⟨_, rfl⟩ ⟨_, .addi, 4 + (d.fdiv 6).fmod 2, _, _, _, _, _, _, _, rfl, last_one, Kd.noConfusion, by have := fm_b (x := d.fdiv 6) (by decide : (0 : Int) < 2); omega, by have := fm_b (x := d.fdiv 6) (by decide : (0 : Int) < 2); omega⟩
  · rename News _ _ _ _ => NN
    exact hret _ [_] _ _ (by k_asm) (ktn_tl1 NN) (ord_of (by assumption)) ⟨_, rfl⟩ ⟨_, .ldr, 4 + (d.fdiv 6).fmod 2, _, _, _, _, _, _, _, rfl, last_one, Kd.noConfusion, by have := fm_b (x := d.fdiv 6) (by decide : (0 : Int) < 2); omega, by have := fm_b (x := d.fdiv 6) (by decide : (0 : Int) < 2); omega⟩
  · rename News _ _ _ _ => NN
    exact hret _ [_] _ _ (by k_asm) (ktn_tl1 NN) (ord_of (by assumption)) ⟨_, rfl⟩ ⟨_, .sto, 4 + (d.fdiv 6).fmod 2, _, _, _, _, _, _, _, rfl, last_one, Kd.noConfusion, by have := fm_b (x := d.fdiv 6) (by decide : (0 : Int) < 2); omega, by have := fm_b (x := d.fdiv 6) (by decide : (0 : Int) < 2); omega⟩
  · rename News _ _ _ _ => NN
    exact hret _ [_] _ _ (by k_asm) (ktn_tl1 NN) (ord_of (by assumption)) ⟨_, rfl⟩ ⟨_, .movi, (d.fdiv 6).fmod 4, _, _, _, _, _, _, _, rfl, last_one, Kd.noConfusion, by have := fm_b (x := d.fdiv 6) (by decide : (0 : Int) < 4); omega, by have := fm_b (x := d.fdiv 6) (by decide : (0 : Int) < 4); omega⟩
end Mine

namespace Mine
open PyProof.V PySem.Calls
def Kd.base : Kd → Str | .addi => Str.ofString "ADD" | _ => Str.ofString ""
abbrev baseC : ToldN RowD where
  Rel := Row1
  Ok := fun d => d.k.store = false ∧ d.k.load = false
  size := fun _ => 3
  Tl := fun tl => tl = []
  Out := fun _ r d => ∃ t, r = .str d.k.base t
theorem Kd.base_no (k : Kd) : ¬ (["MUL", "DIV"].any fun x => Str.ofString x == k.base) = true := by cases k <;> decide +kernel
def wsF (r : RowD) : Int :=
  if r.k.store = true then 0 else if r.k.load = true then 1 * 2 ^ r.d.toNat else Builtin.bitOr (1 * 2 ^ r.d.toNat) (1 * 2 ^ Int.toNat 17)
abbrev wsC : ToldN RowD where
  Rel := Row1
  Ok := fun d => 0 ≤ d.d ∧ d.d ≤ 5
  size := fun _ => 6
  Tl := fun tl => tl = []
  Out := fun _ r d => ∃ t, r = .int (wsF d) t
local macro_rules | `(tactic| walk_at "eval Call") => `(tactic| (k_here; k_dflt (refine Call_ ?_)))

local macro_rules | `(tactic| walk_at "call ref") => `(tactic| (k_here; k_dflt (refine wpAny_call ?_; (refine' code_def ?k1 ?k2 ?k3 ?k4 ?k5 ?kA ?kF ?kK ?k6 ?k7 ?k8 ?k9 ?kB ?_ ?c2 ?c3 ?c4 ?c5; (case kA => exact rfl); (case kF => exact rfl); (case kK => exact rfl); (case k1 => k_asm); (case k2 => k_asm); (case k3 => k_asm); (case k4 => k_asm); (case k5 => k_asm); (case k6 => k_is); (case k7 => k_is); (case k8 => ktr_room); (case k9 => exact BindsTo.of_eq rfl); (case c5 => decide); (case kB => exact locs rfl); (case c2 => exact rfl); (case c3 => exact rfl); (case c4 => exact rfl); k_whole; intro g' L' h' FG' F' N' B' X' T'; (try dsimp only); (try k_lift B'); (try k_fold)))))
set_option maxRecDepth 100000 in
set_option maxHeartbeats 8000000 in
theorem base_tells : Cl 56 baseC := by
  intro w mean mg mb
  refine tellsN_of fun d IH => ?_
  unfold TellsN
  intro dp un gd cn cs a ccd cl outer A₀ base h₀ L m news s vs Q E B F X N T hk hR hok hd hu hret
  clear IH
  obtain ⟨⟨hm⟩⟩ := hR
  rename_i a0 k d b o t1 t2 t3 t4 c
  k_with_none
  dsimp only [baseC] at *
  obtain ⟨o1, o2⟩ := hok
  cases k
  · cases o2
  · cases o1
  · cases o2
  · cases o1
  all_goals (
    dsimp only [tupObj, Kd.nm] at hm
    refine wpAny_call ?_
    k_dflt ktr_enter
    k_steps
    all_goals exact hret _ [] _ _ (by k_asm) (ktn_tl0 (cb_drop (by assumption) fun p hp => .tail _ (.tail _ hp))) ktn_ord0 rfl ⟨_, congrArg (fun z => Value.str z _) (by decide +kernel)⟩)


local macro_rules | `(tactic| ktr_rel) => `(tactic| exact Row1.mk (RowIn.mk (by k_mem)))
local macro_rules | `(tactic| ktn_ord) => `(tactic| first | trivial | assumption | exact ⟨by assumption, by assumption⟩ | (constructor <;> (first | assumption | simp_all)))
local macro_rules | `(tactic| walk_at "call ref") => `(tactic| (k_here; k_dflt (first
  | (refine' tellsN_use ?k1 ?k2 ?k3 ?k4 ?k5 ?kK ?kR (store_tells _ _ _ _ _) ?ko ?kd ?ku ?_; (case k1 => k_asm); (case k2 => k_asm); (case k3 => k_asm); (case k4 => k_asm); (case k5 => k_asm); (case kK => first | exact rfl | assumption); (case kR => ktr_rel); (case ko => ktn_ord); (case kd => (dsimp only; ktr_room)); (case ku => (dsimp only; ktr_units)); intro r9 tl9 h9 tk9 F9 N9 hl9 ht9 ho9; subst ht9; clear hl9; (simp only [List.append_nil] at N9); (first | (have e9 : r9 = _ := ho9; subst e9; clear ho9) | (refine Exists.elim ho9 ?_; clear ho9; intro t9 e9; subst e9)); (try dsimp only); (try k_fold))
  | (refine' tellsN_use ?k1 ?k2 ?k3 ?k4 ?k5 ?kK ?kR (load_tells _ _ _ _ _) ?ko ?kd ?ku ?_; (case k1 => k_asm); (case k2 => k_asm); (case k3 => k_asm); (case k4 => k_asm); (case k5 => k_asm); (case kK => first | exact rfl | assumption); (case kR => ktr_rel); (case ko => ktn_ord); (case kd => (dsimp only; ktr_room)); (case ku => (dsimp only; ktr_units)); intro r9 tl9 h9 tk9 F9 N9 hl9 ht9 ho9; subst ht9; clear hl9; (simp only [List.append_nil] at N9); (first | (have e9 : r9 = _ := ho9; subst e9; clear ho9) | (refine Exists.elim ho9 ?_; clear ho9; intro t9 e9; subst e9)); (try dsimp only); (try k_fold))
  | (refine' tellsN_use ?k1 ?k2 ?k3 ?k4 ?k5 ?kK ?kR (base_tells _ _ _ _ _) ?ko ?kd ?ku ?_; (case k1 => k_asm); (case k2 => k_asm); (case k3 => k_asm); (case k4 => k_asm); (case k5 => k_asm); (case kK => first | exact rfl | assumption); (case kR => ktr_rel); (case ko => ktn_ord); (case kd => (dsimp only; ktr_room)); (case ku => (dsimp only; ktr_units)); intro r9 tl9 h9 tk9 F9 N9 hl9 ht9 ho9; subst ht9; clear hl9; (simp only [List.append_nil] at N9); (first | (have e9 : r9 = _ := ho9; subst e9; clear ho9) | (refine Exists.elim ho9 ?_; clear ho9; intro t9 e9; subst e9)); (try dsimp only); (try k_fold)))))
set_option maxRecDepth 100000 in
set_option maxHeartbeats 8000000 in
theorem ws_tells : Cl 63 wsC := by
  intro w mean mg mb
  refine tellsN_of fun d IH => ?_
  unfold TellsN
  intro dp un gd cn cs a ccd cl outer A₀ base h₀ L m news s vs Q E B F X N T hk hR hok hd hu hret
  clear IH
  obtain ⟨⟨hm⟩⟩ := hR
  rename_i a0 k d b o t1 t2 t3 t4 c
  obtain ⟨ok1, ok2⟩ := hok
  dsimp only at ok1 ok2
  k_with_none
  dsimp only [wsC] at *
  refine wpAny_call ?_
  k_dflt ktr_enter
  k_steps
  · exact hret _ [] _ _ (by k_asm) (ktn_tl0 (by assumption)) ktn_ord0 rfl ⟨_, by rw [wsF, if_pos (by assumption)]⟩
  · exact hret _ [] _ _ (by k_asm) (ktn_tl0 (by assumption)) ktn_ord0 rfl ⟨_, by rw [wsF, if_neg (by rw [‹k.store = false›]; decide), if_pos (by assumption)]⟩
  · exact absurd (by assumption) (Kd.base_no k)
  · exact hret _ [] _ _ (by k_asm) (ktn_tl0 (cb_drop (by assumption) fun p hp => .tail _ hp)) ktn_ord0 rfl ⟨_, by rw [wsF, if_neg (by rw [‹k.store = false›]; decide), if_neg (by rw [‹k.load = false›]; decide)]⟩
end Mine

namespace Mine
open PyProof.V PySem.Calls
section
variable {prog : Program} {w : World} {A : Around} {E : Value → Shared → Prop} {s : Shared} {env : Env} {h₀ : Heap} {body : List Stmt} {Q : Flow → Shared → Prop} {x : Str} {px : Pos}
theorem iter_loc {r : Addr} {a₀ b₀ : Int} {t₀ u₀ v₀ : Tok} {n : Nat} {m₀ : Str → Option Value} {news : List (Addr × Obj)}
    (hh : A.handled = none) (hr : IsRange s.heap r a₀ b₀ 1 t₀ u₀ v₀) (hsmall : Builtin.Range.small a₀ b₀ 1 = true) (hn : Builtin.Range.rangeSize a₀ b₀ 1 = (n : Int)) (F : Fr h₀ env.locals s.heap m₀) (N : News h₀ env.locals s.heap news) (hx : m₀ x = none)
    (P : Nat → Prop) (h0 : P 0)
    (step : ∀ I : Addr, (∀ p ∈ news, p.1 < I) → ∀ (i : Nat) t v h₁ tk₁, i < n → P i → Fr h₀ env.locals h₁ (fun y => if y = x then v else m₀ y) → News h₀ env.locals h₁ ((I, itR (a₀ + ((i + 1 : Nat) : Int)) ((n : Int) - ((i + 1 : Nat) : Int))) :: news) →
      wpAny (model prog w) A (assign (.Name x px) env (.int (a₀ + (i : Int)) t)) (fun _ s₃ => wpAny (model prog w) A (execs body env)
        (UnrPost h₀ env.locals { s with heap := h₁, toks := tk₁ } I (itR (a₀ + ((i + 1 : Nat) : Int)) ((n : Int) - ((i + 1 : Nat) : Int))) (fun m' n' => (∃ v, m' = fun y => if y = x then v else m₀ y) ∧ n' = news ∧ P (i + 1)) Q) E s₃) E { s with heap := h₁, toks := tk₁ })
    (done : ∀ h' tk v, Fr h₀ env.locals h' (fun y => if y = x then v else m₀ y) → News h₀ env.locals h' news → P n → Q .next { s with heap := h', toks := tk }) :
    wpAny (model prog w) A (pyIter (.ref r)) (fun it s₂ => TurnsAt prog w A h₀ env (.Name x px) body Q E it s₂) E s := by
  refine iter_rangeT hh hr hsmall hn F N (fun i m' n' => (∃ v, m' = fun y => if y = x then v else m₀ y) ∧ n' = news ∧ P i) ⟨⟨none, ?_⟩, rfl, h0⟩ ?_ ?_
  · funext y
    by_cases e : y = x
    · rw [if_pos e, e, hx]
    · rw [if_neg e]
  · intro I hI i t m₁ news₁ h₁ tk₁ hi hJ hne F₁ N₁
    obtain ⟨⟨v, rfl⟩, rfl, hP⟩ := hJ
    exact step I hI i t v h₁ tk₁ hi hP F₁ N₁
  · intro h' tk m' news' F' N' hJ
    obtain ⟨⟨v, rfl⟩, rfl, hP⟩ := hJ
    exact done h' tk v F' N' hP
theorem loc_end {L I : Addr} {it : Obj} {v w : Option Value} {s₁ : Shared} {h' : Heap} {tk : Nat} {m₀ : Str → Option Value} {all news : List (Addr × Obj)} {P : Prop} (F : Fr h₀ L h' (fun y => if y = x then w else (fun y => if y = x then v else m₀ y) y)) (N : News h₀ L h' all)
    (hI : (I, it) ∈ all) (hr : ∀ p ∈ news, p ∈ all) (h2 : ∀ p ∈ news, p.1 < I) (hP : P) :
    UnrEnd h₀ L s₁ I it (fun m' n' => (∃ v, m' = fun y => if y = x then v else m₀ y) ∧ n' = news ∧ P) { s₁ with heap := h', toks := tk } :=
  UnrEnd.intro F N news (fun p hp => by
    rcases List.mem_cons.mp hp with rfl | hp
    · exact hI
    · exact hr p hp) (fun p hp e => absurd (e ▸ h2 p hp : @LT.lt Nat _ I I) (Nat.lt_irrefl _)) ⟨⟨w, funext fun y => by by_cases e : y = x <;> simp [e]⟩, rfl, hP⟩
end
end Mine

namespace Mine
open PyProof.V PySem.Calls
inductive RowsIn (nw : List (Addr × Obj)) : List Value → List RowD → Prop where
  | nil : RowsIn nw [] []
  | cons {v : Value} {r : RowD} {vs : List Value} {rs : List RowD} : RowIn nw v r → RowsIn nw vs rs → RowsIn nw (v :: vs) (r :: rs)
theorem RowsIn.at {nw : List (Addr × Obj)} : ∀ {vs : List Value} {rs : List RowD}, RowsIn nw vs rs → ∀ i, i < rs.length →
    ∃ a k d b o t1 t2 t3 t4 c, vs[i]? = some (.ref a) ∧ (a, tupObj k d b o t1 t2 t3 t4 c) ∈ nw ∧ rs[i]? = some ⟨k, d, b, o⟩
  | _, _, .nil, i, h => absurd h (Nat.not_lt_zero _)
  | _, _, .cons h _, 0, _ => by
    cases h with
    | mk hm => exact ⟨_, _, _, _, _, _, _, _, _, _, rfl, hm, rfl⟩
  | _, _, .cons _ h, i + 1, hi => h.at i (Nat.lt_of_succ_lt_succ hi)
structure ChD where
  rs : List RowD
  reg : Int
  n : Nat
inductive ChIn (nw : List (Addr × Obj)) : List Value → ChD → Prop where
  | mk {l : Addr} {c : Nat} {vs : List Value} {rs : List RowD} {reg : Int} {n : Nat} {t t0 t1 : Tok} : (l, listOf vs.toArray c) ∈ nw → RowsIn nw vs rs → ChIn nw [.ref l, .int reg t, .int 0 t0, .int (n : Int) t1] ⟨rs, reg, n⟩
def setsF (r : RowD) (reg : Int) : Bool := decide (Builtin.bitAnd ((wsF r).fdiv (2 ^ reg.toNat)) 1 = 1)
theorem small8 {n : Nat} (h : n ≤ 8) : Builtin.Range.small 0 (n : Int) 1 = true ∧ Builtin.Range.rangeSize 0 (n : Int) 1 = (n : Int) := by
  have : n = 0 ∨ n = 1 ∨ n = 2 ∨ n = 3 ∨ n = 4 ∨ n = 5 ∨ n = 6 ∨ n = 7 ∨ n = 8 := by omega
  rcases this with rfl | rfl | rfl | rfl | rfl | rfl | rfl | rfl | rfl <;> exact ⟨by decide, by decide⟩
def changedF (d : ChD) : Bool := (d.rs.take d.n).any fun r => setsF r d.reg
theorem changed_no {d : ChD} (h : ∀ j r, j < d.n → d.rs[j]? = some r → setsF r d.reg = false) : changedF d = false := by
  rw [changedF, List.any_eq_false]
  intro r hr
  obtain ⟨j, hj, e⟩ := List.mem_iff_getElem.mp hr
  rw [List.length_take] at hj
  rw [List.getElem_take] at e
  rw [h j r (by omega) (by rw [← e]; exact List.getElem?_eq_getElem _)]
  decide
theorem changed_yes {d : ChD} {i : Nat} {r : RowD} (hi : i < d.n) (hr : d.rs[i]? = some r) (h : setsF r d.reg = true) : changedF d = true := by
  rw [changedF, List.any_eq_true]
  refine ⟨r, ?_, h⟩
  rw [List.mem_take_iff_getElem]
  obtain ⟨hlt, e⟩ := List.getElem?_eq_some_iff.mp hr
  exact ⟨i, by omega, e⟩
abbrev changedC : ToldN ChD where
  Rel := ChIn
  Ok := fun d => d.n ≤ d.rs.length ∧ d.n ≤ 8 ∧ 4 ≤ d.reg ∧ d.reg ≤ 5 ∧ ∀ r ∈ d.rs, 0 ≤ r.d ∧ r.d ≤ 5
  size := fun _ => 8
  Tl := fun tl => tl = []
  Out := fun _ r d => r = .bool (changedF d)
local macro_rules | `(tactic| walk_at "eval Call") => `(tactic| (k_here; k_dflt (refine Call_ ?_)))
local macro_rules | `(tactic| ktr_rel) => `(tactic| exact Row1.mk (RowIn.mk (by k_mem)))
local macro_rules | `(tactic| ktn_ord) => `(tactic| first | trivial | assumption | exact ⟨by assumption, by assumption⟩ | (constructor <;> (first | assumption | simp_all)))
theorem item_ref {M : Program} {w : World} {A : Around} {E : Value → Shared → Prop} {s : Shared} {value slice : PySem.Expr} {h₀ : Heap} {L l : Addr} {c : Nat} {news : List (Addr × Obj)} {vs : List Value} {k : Int} {u : Tok} {v : Value} {Q : Value → Shared → Prop}
    (N : News h₀ L s.heap news) (hm : (l, listOf vs.toArray c) ∈ news) (h0 : 0 ≤ k) (hhi : k < 2 ^ 63) (hx : vs[k.toNat]? = some v)
    (hs : subscripted slice false (.ref l) (.int k u) = operate [.ref l, .int k u] (getItem (.ref l) (.int k u))) (h : Q v s) :
    wpAny (model M w) A (subscriptTail value slice (.ref l) (.int k u)) Q E s := item_litK ⟨_, (N _ hm).1, rfl, _, rfl⟩ h0 hhi hx h hs
local macro_rules | `(tactic| k_mem) => `(tactic| exact memL (by assumption))
local macro_rules | `(tactic| walk_at "UnrEnd") => `(tactic| refine Halt.out ?_)
local macro_rules | `(tactic| walk_at "exec For Name Call cons nil") => `(tactic| (k_here; (rename Fr _ _ _ _ => lF'); (with_unfolding_all refine' For_turns lF' ?_; k_whole)))
local macro_rules | `(tactic| walk_at "subscriptTail") => `(tactic| (k_here; k_dflt (refine' item_ref ?N ?m ?a ?b ?x ?s ?_; (case N => k_asm); (case m => k_mem); (case a => omega); (case b => omega); (case x => assumption); (case s => with_unfolding_all rfl))))
local macro_rules | `(tactic| walk_at "call ref") => `(tactic| (k_here; k_dflt (first
  | (refine' tellsN_use ?k1 ?k2 ?k3 ?k4 ?k5 ?kK ?kR (ctrl_tells _ _ _ _ _) ?ko ?kd ?ku ?_; (case k1 => k_asm); (case k2 => k_asm); (case k3 => k_asm); (case k4 => k_asm); (case k5 => k_asm); (case kK => first | exact rfl | assumption); (case kR => ktr_rel); (case ko => ktn_ord); (case kd => (dsimp only; ktr_room)); (case ku => (dsimp only; ktr_units)); intro r9 tl9 h9 tk9 F9 N9 hl9 ht9 ho9; subst ht9; clear hl9; (simp only [List.append_nil] at N9); (first | (have e9 : r9 = _ := ho9; subst e9; clear ho9) | (refine Exists.elim ho9 ?_; clear ho9; intro t9 e9; subst e9)); (try dsimp only); (try k_fold))
  | (refine' tellsN_use ?k1 ?k2 ?k3 ?k4 ?k5 ?kK ?kR (ws_tells _ _ _ _ _) ?ko ?kd ?ku ?_; (case k1 => k_asm); (case k2 => k_asm); (case k3 => k_asm); (case k4 => k_asm); (case k5 => k_asm); (case kK => first | exact rfl | assumption); (case kR => ktr_rel); (case ko => ktn_ord); (case kd => (dsimp only; ktr_room)); (case ku => (dsimp only; ktr_units)); intro r9 tl9 h9 tk9 F9 N9 hl9 ht9 ho9; subst ht9; clear hl9; (simp only [List.append_nil] at N9); (first | (have e9 : r9 = _ := ho9; subst e9; clear ho9) | (refine Exists.elim ho9 ?_; clear ho9; intro t9 e9; subst e9)); (try dsimp only); (try k_fold)))))
set_option maxRecDepth 100000 in
set_option maxHeartbeats 8000000 in
theorem changed_tells : Cl 84 changedC := by
  intro w mean mg mb
  refine tellsN_of fun d IH => ?_
  unfold TellsN
  intro dp un gd cn cs a ccd cl outer A₀ base h₀ L m news s vs Q E B F X N T hk hR hok hd hu hret
  clear IH
  obtain ⟨hl, hrs⟩ := hR
  rename_i l c us rs reg n t t0 t1
  obtain ⟨ok1, ok2, ok3, ok4, ok5⟩ := hok
  dsimp only at ok1 ok2 ok3 ok4 ok5
  k_with_none
  dsimp only [changedC] at *
  refine wpAny_call ?_
  k_dflt ktr_enter
  k_steps
  rename IsRange _ _ _ _ _ _ _ _ => hr'
  rename Fr _ _ _ _ => FF
  rename News _ _ _ _ => NN
  k_dflt (refine' iter_loc (n := n) ?a hr' ?b ?c FF NN ?hx (fun i => ∀ j r, j < i → rs[j]? = some r → setsF r reg = false) ?z ?step ?done)
  (case a => rfl)
  (case b => exact (small8 ok2).1)
  (case c => exact (small8 ok2).2)
  (case hx => rfl)
  (case z => intro j r hj; exact absurd hj (Nat.not_lt_zero _))
  (case step =>
    intro I lI i t v h₁ tk₁ hi hP F1 N1
    clear FF NN hr'
    obtain ⟨ai, k, di, bi, oi, t1, t2, t3, t4, c9, hit, hmi, hri⟩ := hrs.at i (Nat.lt_of_lt_of_le hi ok1)
    have hidx : us[((0 : Int) + (i : Int)).toNat]? = some (.ref ai) := by rw [Int.zero_add, Int.toNat_natCast]; exact hit
    obtain ⟨hd0, hd5⟩ := ok5 _ (List.mem_of_getElem? hri)
    dsimp only at hd0 hd5
    k_steps
    · exact Bool.noConfusion (by assumption : Kd.ctrl k = true)
    · rename News _ _ _ _ => NN
      exact hret _ [] _ _ (by k_asm) (ktn_tl0 (cb_drop NN fun p hp => .tail _ hp)) ktn_ord0 rfl (congrArg Value.bool (changed_yes (d := ⟨rs, reg, n⟩) hi hri (decide_eq_true (by assumption))).symm)
    · unfold Halt
      rename News _ _ _ _ => NN
      rename Fr _ _ _ _ => FF
      have hset : setsF ⟨k, di, bi, oi⟩ reg = false := decide_eq_false (by assumption)
      exact loc_end FF NN (.head _) (fun p hp => .tail _ hp) lI (fun j r hj hr => (Nat.lt_succ_iff_lt_or_eq.mp hj).elim (fun h => hP j r h hr) fun e => by subst e; rw [hri] at hr; cases hr; exact hset))
  (case done =>
    intro h' tk v F1 N1 hP
    clear FF NN hr'
    k_steps
    exact hret _ [] _ _ (by k_asm) (ktn_tl0 (by assumption)) ktn_ord0 rfl (congrArg Value.bool (changed_no (d := ⟨rs, reg, n⟩) hP).symm))
end Mine

namespace Mine
open PyProof.V PySem.Calls
inductive MeIn (nw : List (Addr × Obj)) : List Value → List RowD × Nat → Prop where
  | mk {l : Addr} {c : Nat} {vs : List Value} {rs : List RowD} {n : Nat} {t0 t1 : Tok} : (l, listOf vs.toArray c) ∈ nw → RowsIn nw vs rs → MeIn nw [.ref l, .int 0 t0, .int (n : Int) t1] (rs, n)
def meetM (x y : RowD) (ch : Bool) : Bool :=
  if x.k.mem = false ∨ y.k.mem = false then false
  else if x.k.load = true ∧ y.k.load = true then false
  else if x.b ≠ y.b ∨ ch = true then true
  else !(apartF x y)
theorem meet_a {x y : RowD} {ch : Bool} (h1 : x.k.mem = true) (h2 : y.k.mem = true) (h3 : x.k.load = true) (h4 : y.k.load = true) : meetM x y ch = false := by
  simp [meetM, h1, h2, h3, h4]
theorem meet_b {x y : RowD} {ch : Bool} (h1 : x.k.mem = true) (h2 : y.k.mem = true) (h3 : x.k.load = false ∨ y.k.load = false) (h4 : x.b ≠ y.b) : meetM x y ch = true := by
  rcases h3 with h3 | h3 <;> simp [meetM, h1, h2, h3, h4]
theorem meet_c {x y : RowD} {ch : Bool} (h1 : x.k.mem = true) (h2 : y.k.mem = true) (h3 : x.k.load = false ∨ y.k.load = false) (h4 : ch = true) : meetM x y ch = true := by
  rcases h3 with h3 | h3 <;> simp [meetM, h1, h2, h3, h4]
theorem meet_d {x y : RowD} {ch : Bool} (h1 : x.k.mem = true) (h2 : y.k.mem = true) (h3 : x.k.load = false ∨ y.k.load = false) (h4 : x.b = y.b) (h5 : ch = false) : meetM x y ch = !apartF x y := by
  rcases h3 with h3 | h3 <;> simp [meetM, h1, h2, h3, h4, h5]
theorem meet_e {x y : RowD} {ch : Bool} (h : x.k.mem = false ∨ y.k.mem = false) : meetM x y ch = false := by
  rw [meetM, if_pos h]
def meetD (d : List RowD × Nat) : Bool :=
  match d.1[0]?, d.1[d.2]? with
  | some x, some y => meetM x y (changedF ⟨d.1, x.b, d.2⟩)
  | _, _ => false
theorem meetD_eq {rs : List RowD} {n : Nat} {x y : RowD} (hx : rs[0]? = some x) (hy : rs[n]? = some y) : meetD (rs, n) = meetM x y (changedF ⟨rs, x.b, n⟩) := by
  simp only [meetD, hx, hy]
abbrev meetC : ToldN (List RowD × Nat) where
  Rel := MeIn
  Ok := fun d => d.2 + 1 = d.1.length ∧ d.2 ≤ 8 ∧ (∀ r ∈ d.1, 0 ≤ r.d ∧ r.d ≤ 5) ∧ ∀ x, d.1[0]? = some x → 4 ≤ x.b ∧ x.b ≤ 5
  size := fun _ => 10
  Tl := fun tl => tl = []
  Out := fun _ r d => r = .bool (meetD d)
local macro_rules | `(tactic| walk_at "eval Call") => `(tactic| (k_here; k_dflt (refine Call_ ?_)))
local macro_rules | `(tactic| ktr_rel) => `(tactic| first | exact Row1.mk (RowIn.mk (by k_mem)) | exact Row2.mk (RowIn.mk (by k_mem)) (RowIn.mk (by k_mem)) | exact ChIn.mk (by k_mem) (by assumption))
local macro_rules | `(tactic| ktn_ord) => `(tactic| first | trivial | assumption)
local macro_rules | `(tactic| k_mem) => `(tactic| exact memL (by assumption))
local macro_rules | `(tactic| walk_at "subscriptTail") => `(tactic| (k_here; k_dflt (refine' item_ref ?N ?m ?a ?b ?x ?s ?_; (case N => k_asm); (case m => k_mem); (case a => omega); (case b => omega); (case x => assumption); (case s => with_unfolding_all rfl))))
local macro_rules | `(tactic| walk_at "call ref") => `(tactic| (k_here; k_dflt (first
  | (refine' tellsN_use ?k1 ?k2 ?k3 ?k4 ?k5 ?kK ?kR (mem_tells _ _ _ _ _) ?ko ?kd ?ku ?_; (case k1 => k_asm); (case k2 => k_asm); (case k3 => k_asm); (case k4 => k_asm); (case k5 => k_asm); (case kK => first | exact rfl | assumption); (case kR => ktr_rel); (case ko => ktn_ord); (case kd => (dsimp only; ktr_room)); (case ku => (dsimp only; ktr_units)); intro r9 tl9 h9 tk9 F9 N9 hl9 ht9 ho9; subst ht9; clear hl9; (simp only [List.append_nil] at N9); (first | (have e9 : r9 = _ := ho9; subst e9; clear ho9) | (refine Exists.elim ho9 ?_; clear ho9; intro t9 e9; subst e9)); (try dsimp only); (try k_fold))
  | (refine' tellsN_use ?k1 ?k2 ?k3 ?k4 ?k5 ?kK ?kR (load_tells _ _ _ _ _) ?ko ?kd ?ku ?_; (case k1 => k_asm); (case k2 => k_asm); (case k3 => k_asm); (case k4 => k_asm); (case k5 => k_asm); (case kK => first | exact rfl | assumption); (case kR => ktr_rel); (case ko => ktn_ord); (case kd => (dsimp only; ktr_room)); (case ku => (dsimp only; ktr_units)); intro r9 tl9 h9 tk9 F9 N9 hl9 ht9 ho9; subst ht9; clear hl9; (simp only [List.append_nil] at N9); (first | (have e9 : r9 = _ := ho9; subst e9; clear ho9) | (refine Exists.elim ho9 ?_; clear ho9; intro t9 e9; subst e9)); (try dsimp only); (try k_fold))
  | (refine' tellsN_use ?k1 ?k2 ?k3 ?k4 ?k5 ?kK ?kR (apart_tells _ _ _ _ _) ?ko ?kd ?ku ?_; (case k1 => k_asm); (case k2 => k_asm); (case k3 => k_asm); (case k4 => k_asm); (case k5 => k_asm); (case kK => first | exact rfl | assumption); (case kR => ktr_rel); (case ko => ktn_ord); (case kd => (dsimp only; ktr_room)); (case ku => (dsimp only; ktr_units)); intro r9 tl9 h9 tk9 F9 N9 hl9 ht9 ho9; subst ht9; clear hl9; (simp only [List.append_nil] at N9); (first | (have e9 : r9 = _ := ho9; subst e9; clear ho9) | (refine Exists.elim ho9 ?_; clear ho9; intro t9 e9; subst e9)); (try dsimp only); (try k_fold))
  | (refine' tellsN_use ?k1 ?k2 ?k3 ?k4 ?k5 ?kK ?kR (changed_tells _ _ _ _ _) ?ko ?kd ?ku ?_; (case k1 => k_asm); (case k2 => k_asm); (case k3 => k_asm); (case k4 => k_asm); (case k5 => k_asm); (case kK => first | exact rfl | assumption); (case kR => ktr_rel); (case ko => ktn_ord); (case kd => (dsimp only; ktr_room)); (case ku => (dsimp only; ktr_units)); intro r9 tl9 h9 tk9 F9 N9 hl9 ht9 ho9; subst ht9; clear hl9; (simp only [List.append_nil] at N9); (first | (have e9 : r9 = _ := ho9; subst e9; clear ho9) | (refine Exists.elim ho9 ?_; clear ho9; intro t9 e9; subst e9)); (try dsimp only); (try k_fold)))))
set_option maxRecDepth 100000 in
set_option maxHeartbeats 8000000 in
theorem meet_tells : Cl 91 meetC := by
  intro w mean mg mb
  refine tellsN_of fun d IH => ?_
  unfold TellsN
  intro dp un gd cn cs a ccd cl outer A₀ base h₀ L m news s vs Q E B F X N T hk hR hok hd hu hret
  clear IH
  obtain ⟨hl, hrs⟩ := hR
  rename_i l c us rs n t0 t1
  obtain ⟨ok1, ok2, ok5, ok6⟩ := hok
  dsimp only at ok1 ok2 ok5 ok6
  k_with_none
  dsimp only [meetC] at *
  obtain ⟨a1, k1, d1, b1, o1, _, _, _, _, _, hit1, hm1, hr1⟩ := hrs.at 0 (by omega)
  obtain ⟨a2, k2, d2, b2, o2, _, _, _, _, _, hit2, hm2, hr2⟩ := hrs.at n (by omega)
  have hx1 : us[((0 : Int)).toNat]? = some (.ref a1) := hit1
  have hx2 : us[((n : Int)).toNat]? = some (.ref a2) := by rw [Int.toNat_natCast]; exact hit2
  obtain ⟨hb4, hb5⟩ := ok6 _ hr1
  dsimp only at hb4 hb5
  have okc : n ≤ rs.length ∧ n ≤ 8 ∧ 4 ≤ b1 ∧ b1 ≤ 5 ∧ ∀ r ∈ rs, 0 ≤ r.d ∧ r.d ≤ 5 := ⟨by omega, ok2, hb4, hb5, ok5⟩
  refine wpAny_call ?_
  k_dflt ktr_enter
  k_steps
  all_goals (rename News _ _ _ _ => NN; refine hret _ [] _ _ (by k_asm) (ktn_tl0 NN) ktn_ord0 rfl (congrArg Value.bool (Eq.symm ((meetD_eq hr1 hr2).trans ?_))); first
    | exact meet_a (by assumption) (by assumption) (by assumption) (by assumption)
    | exact meet_b (by assumption) (by assumption) (by first | exact Or.inl (by assumption) | exact Or.inr (by assumption)) (by assumption)
    | exact meet_c (by assumption) (by assumption) (by first | exact Or.inl (by assumption) | exact Or.inr (by assumption)) (by assumption)
    | exact meet_d (by assumption) (by assumption) (by first | exact Or.inl (by assumption) | exact Or.inr (by assumption)) (by assumption) (by assumption)
    | exact meet_e (by first | exact Or.inl (by assumption) | exact Or.inr (by assumption)))
end Mine

namespace Mine
open PyProof.V PySem.Calls
def lowF (x : Int) : Int := x - x.fmod 4
theorem fm4 (x : Int) : x.fmod 4 = x % 4 := Int.fmod_eq_emod_of_nonneg x (by decide)
theorem meet_ww {x y : Int} : (([lowF x, lowF x + 1, lowF x + 2, lowF x + 3].filter fun k => [lowF y, lowF y + 1, lowF y + 2, lowF y + 3].any (· == k)) = []) ↔ lowF x ≠ lowF y := by
  rw [List.filter_eq_nil_iff]
  constructor
  · intro h e
    refine h (lowF x) (by simp) ?_
    rw [e]; simp
  · intro h a ha
    simp only [List.any_cons, List.any_nil, Bool.or_false, Bool.or_eq_true, beq_iff_eq, not_or]
    simp only [List.mem_cons, List.not_mem_nil, or_false] at ha
    have e1 : lowF x = 4 * (x / 4) := by rw [lowF, fm4]; omega
    have e2 : lowF y = 4 * (y / 4) := by rw [lowF, fm4]; omega
    rw [e1, e2] at h
    rw [e1] at ha
    rw [e2]
    rcases ha with rfl | rfl | rfl | rfl <;> omega
theorem meet_wb {x y : Int} : (([lowF x, lowF x + 1, lowF x + 2, lowF x + 3].filter fun k => [y].any (· == k)) = []) ↔ ¬ (lowF x ≤ y ∧ y < lowF x + 4) := by
  rw [List.filter_eq_nil_iff]
  simp only [List.any_cons, List.any_nil, Bool.or_false, beq_iff_eq, List.mem_cons, List.not_mem_nil, or_false]
  constructor
  · intro h hy
    exact h y (by omega) rfl
  · intro h a ha e
    subst e
    exact h (by omega)
theorem meet_bw {x y : Int} : (([x].filter fun k => [lowF y, lowF y + 1, lowF y + 2, lowF y + 3].any (· == k)) = []) ↔ ¬ (lowF y ≤ x ∧ x < lowF y + 4) := by
  rw [List.filter_eq_nil_iff]
  simp only [List.any_cons, List.any_nil, Bool.or_false, Bool.or_eq_true, beq_iff_eq, List.mem_cons, List.not_mem_nil, or_false, forall_eq]
  omega
theorem meet_bb {x y : Int} : (([x].filter fun k => [y].any (· == k)) = []) ↔ x ≠ y := by
  rw [List.filter_eq_nil_iff]
  simp only [List.any_cons, List.any_nil, Bool.or_false, beq_iff_eq, List.mem_cons, List.not_mem_nil, or_false, forall_eq]
  omega
theorem four {p : Nat → Prop} : (∀ i, i < 4 → p i) ↔ p 0 ∧ p 1 ∧ p 2 ∧ p 3 := by
  constructor
  · intro h; exact ⟨h 0 (by decide), h 1 (by decide), h 2 (by decide), h 3 (by decide)⟩
  · rintro ⟨h0, h1, h2, h3⟩ i hi
    have : i = 0 ∨ i = 1 ∨ i = 2 ∨ i = 3 := by omega
    rcases this with rfl | rfl | rfl | rfl <;> assumption
theorem never_eq {x y : RowD} (hx : x.k.mem = true) (hy : y.k.mem = true) : neverF x y = apartF x y := by
  obtain ⟨k, d, b, o⟩ := x
  obtain ⟨k', d', b', o'⟩ := y
  dsimp only at hx hy
  rw [Bool.eq_iff_iff, neverF, decide_eq_true_iff, four]
  have hw : k.byte = true ∧ k.bytes = 1 ∨ k.byte = false ∧ k.bytes = 4 := by cases k <;> first | exact Or.inl ⟨rfl, rfl⟩ | exact Or.inr ⟨rfl, rfl⟩ | cases hx
  have hw' : k'.byte = true ∧ k'.bytes = 1 ∨ k'.byte = false ∧ k'.bytes = 4 := by cases k' <;> first | exact Or.inl ⟨rfl, rfl⟩ | exact Or.inr ⟨rfl, rfl⟩ | cases hy
  rcases hw with ⟨e1, e2⟩ | ⟨e1, e2⟩ <;> rcases hw' with ⟨e3, e4⟩ | ⟨e3, e4⟩
  · simp only [meetF, touchedF, apartF, e1, e2, e3, e4, if_true, decide_eq_true_eq, meet_bb]
    omega
  · simp only [meetF, touchedF, apartF, e1, e2, e3, e4, if_true, Bool.false_eq_true, if_false, decide_eq_true_eq, Bool.or_eq_true]
    rw [if_neg (by decide), Bool.or_eq_true, decide_eq_true_iff, decide_eq_true_iff]
    have q := fun i => meet_bw (x := 1000 + ((i : Nat) : Int) + o) (y := 1000 + ((i : Nat) : Int) + o')
    simp only [lowF] at q
    simp only [q]
    simp only [fm4]
    omega
  · simp only [meetF, touchedF, apartF, e1, e2, e3, e4, if_true, Bool.false_eq_true, if_false, decide_eq_true_eq, Bool.or_eq_true]
    rw [if_neg (by decide), if_neg (by decide), Bool.or_eq_true, decide_eq_true_iff, decide_eq_true_iff]
    have q := fun i => meet_wb (x := 1000 + ((i : Nat) : Int) + o) (y := 1000 + ((i : Nat) : Int) + o')
    simp only [lowF] at q
    simp only [q]
    simp only [fm4]
    omega
  · simp only [meetF, touchedF, apartF, e1, e2, e3, e4, if_true, Bool.false_eq_true, if_false, decide_eq_true_eq]
    have q := fun i => meet_ww (x := 1000 + ((i : Nat) : Int) + o) (y := 1000 + ((i : Nat) : Int) + o')
    simp only [lowF] at q
    simp only [q]
    simp only [fm4]
    omega
theorem apart_symm (x y : RowD) : apartF y x = apartF x y := by
  have h (k : Kd) : k.bytes = 1 ∨ k.bytes = 4 := by cases k <;> first | exact Or.inl rfl | exact Or.inr rfl
  rw [Bool.eq_iff_iff]
  rcases h x.k with e1 | e1 <;> rcases h y.k with e2 | e2 <;> simp only [apartF, e1, e2, if_true, decide_eq_true_eq]
  · omega
  · rw [if_neg (by decide), if_neg (by decide), if_neg (by decide), Bool.or_eq_true]
  · rw [if_neg (by decide), if_neg (by decide), if_neg (by decide), Bool.or_eq_true]
  · omega
def midF (r : RowD) (reg : Int) : Bool := !r.k.store && decide (r.d = reg)
theorem sets_eq {r : RowD} {reg : Int} (h0 : 0 ≤ r.d) (h5 : r.d ≤ 5) (h4 : 4 ≤ reg) (hr : reg ≤ 5) : setsF r reg = midF r reg := by
  obtain ⟨k, d, b, o⟩ := r
  dsimp only at h0 h5
  have e : setsF ⟨k, d, b, o⟩ reg = setsF ⟨k, d, 0, 0⟩ reg := rfl
  have e' : midF ⟨k, d, b, o⟩ reg = midF ⟨k, d, 0, 0⟩ reg := rfl
  rw [e, e']
  have hd : d = 0 ∨ d = 1 ∨ d = 2 ∨ d = 3 ∨ d = 4 ∨ d = 5 := by omega
  have hg : reg = 4 ∨ reg = 5 := by omega
  rcases hg with rfl | rfl <;> rcases hd with rfl | rfl | rfl | rfl | rfl | rfl <;> cases k <;> decide +kernel
end Mine

namespace Mine
open PyProof.V PySem.Calls
abbrev Grit (l : List Int) : Prop := ∀ g ∈ l, 0 ≤ g ∧ g < 1824
theorem grit_start : ([] : List Int).length = ([] : List Int).length ∧ ∀ g ∈ ([] : List Int), 0 ≤ g ∧ g < 1824 := ⟨rfl, fun _ h => nomatch h⟩
theorem grit_snoc {l : List Int} {x : Int} (h : ∀ g ∈ l, 0 ≤ g ∧ g < 1824) (h0 : 0 ≤ x) (h1 : x < 1824) : ∀ g ∈ l ++ [x], 0 ≤ g ∧ g < 1824 := by
  intro g hg
  rcases List.mem_append.mp hg with hg | hg
  · exact h g hg
  · rw [List.mem_singleton.mp hg]; exact ⟨h0, h1⟩
theorem grit_turn {l pre : List Int} {n : Int} (h : l.length = pre.length) (hb : ∀ g ∈ l, 0 ≤ g ∧ g < 1824) :
    (l ++ [(if n < 0 then -n else n).fmod 1824]).length = (pre ++ [n]).length ∧ ∀ g ∈ l ++ [(if n < 0 then -n else n).fmod 1824], 0 ≤ g ∧ g < 1824 :=
  ⟨by simp [h], grit_snoc hb (fm_b (by decide)).1 (fm_b (by decide : (0 : Int) < 1824)).2⟩
theorem grit_while {l xs : List Int} (h : l.length = (List.take 14 xs).length) (hb : ∀ g ∈ l, 0 ≤ g ∧ g < 1824) :
    l.length ≤ 14 ∧ 0 ≤ 2 + (l.length : Int) ∧ 2 + (l.length : Int) < 1824 ∧ ∀ g ∈ l, 0 ≤ g ∧ g < 1824 := by
  have : l.length ≤ 14 := by rw [h]; exact List.length_take_le _ _
  exact ⟨this, by omega, by omega, hb⟩
theorem grit_more {l : List Int} {s : Int} (h : (l.length : Int) < 14) (hb : ∀ g ∈ l, 0 ≤ g ∧ g < 1824) :
    (l ++ [(s * 43 + 997).fmod 1823]).length ≤ 14 ∧ 0 ≤ (s * 43 + 997).fmod 1823 ∧ (s * 43 + 997).fmod 1823 < 1824 ∧ ∀ g ∈ l ++ [(s * 43 + 997).fmod 1823], 0 ≤ g ∧ g < 1824 := by
  have h0 := (fm_b (x := s * 43 + 997) (by decide : (0 : Int) < 1823)).1
  have h1 := (fm_b (x := s * 43 + 997) (by decide : (0 : Int) < 1823)).2
  exact ⟨by rw [List.length_append, List.length_singleton]; omega, h0, by omega, grit_snoc hb h0 (by omega)⟩
theorem grit_measure {l : List Int} {x : Int} (h : (l.length : Int) < 14) : 14 - (l ++ [x]).length < 14 - l.length := by
  rw [List.length_append, List.length_singleton]; omega
theorem row2_sl {nw : List (Addr × Obj)} {a a' : Addr} {d b o d' b' o' : Int} {t1 t2 t3 t4 u1 u2 u3 u4 : Tok} {c c' : Nat} (h : (a, tupObj .stb d b o t1 t2 t3 t4 c) ∈ nw) (h' : (a', tupObj .ldr d' b' o' u1 u2 u3 u4 c') ∈ nw) :
    Row2 nw [.ref a, .ref a'] (⟨.stb, d, b, o⟩, ⟨.ldr, d', b', o'⟩) := Row2.mk (RowIn.mk h) (RowIn.mk h')
theorem grit_get {l : List Int} (h : ∀ g ∈ l, 0 ≤ g ∧ g < 1824) (i : Nat) : 0 ≤ l.getD i 0 := by
  rw [List.getD_eq_getElem?_getD]
  cases e : l[i]? with
  | none => exact Int.le_refl _
  | some g => exact (h g (List.mem_of_getElem? e)).1
theorem row_back {h₀ h : Heap} {L a : Addr} {o : Obj} {p : Addr × Obj} {news : List (Addr × Obj)} (N : News h₀ L h (news ++ [p])) (hl : ∀ q ∈ news, ∀ p' ∈ [p], @LT.lt Nat _ q.1 p'.1) (hg : (news ++ [p]).getLast? = some (a, o)) :
    News h₀ L h ((a, o) :: news) ∧ (∀ q ∈ news, q.1 < a) := by
  rw [last_one] at hg
  have e := Option.some.inj hg
  subst e
  refine ⟨fun q hq => ?_, fun q hq => hl q hq _ (List.mem_singleton.mpr rfl)⟩
  rcases List.mem_cons.mp hq with rfl | hq
  · exact N _ (List.mem_append.mpr (.inr (.head _)))
  · exact N _ (List.mem_append_left _ hq)
abbrev MidOk (r : RowD) : Prop := r.k ≠ .stb ∧ 0 ≤ r.d ∧ r.d ≤ 5
theorem RowIn.mono {nw nw' : List (Addr × Obj)} {v : Value} {r : RowD} (h : RowIn nw v r) (hs : ∀ p ∈ nw, p ∈ nw') : RowIn nw' v r := by
  cases h with
  | mk hm => exact .mk (hs _ hm)
theorem RowsIn.mono {nw nw' : List (Addr × Obj)} (hs : ∀ p ∈ nw, p ∈ nw') : ∀ {vs : List Value} {rs : List RowD}, RowsIn nw vs rs → RowsIn nw' vs rs
  | _, _, .nil => .nil
  | _, _, .cons h t => .cons (h.mono hs) (t.mono hs)
theorem RowsIn.append {nw : List (Addr × Obj)} : ∀ {vs ws : List Value} {rs qs : List RowD}, RowsIn nw vs rs → RowsIn nw ws qs → RowsIn nw (vs ++ ws) (rs ++ qs)
  | _, _, _, _, .nil, h => h
  | _, _, _, _, .cons h t, h' => .cons h (t.append h')
theorem RowsIn.len {nw : List (Addr × Obj)} : ∀ {vs : List Value} {rs : List RowD}, RowsIn nw vs rs → vs.length = rs.length
  | _, _, .nil => rfl
  | _, _, .cons _ t => congrArg (· + 1) t.len
theorem mem_flip {q : Addr × Obj} {tl news : List (Addr × Obj)} (h : q ∈ tl ++ news) : q ∈ news ++ tl := List.mem_append.mpr (List.mem_append.mp h).symm
theorem news_flip1 {h₀ h : Heap} {L : Addr} {x : Addr × Obj} {tl news : List (Addr × Obj)} (N : News h₀ L h (x :: (tl ++ news))) : News h₀ L h (x :: (news ++ tl)) := fun q hq => N q (by
  rcases List.mem_cons.mp hq with rfl | hq
  · exact .head _
  · exact .tail _ (mem_flip hq))
theorem news_flip3 {h₀ h : Heap} {L : Addr} {x y z : Addr × Obj} {tl news : List (Addr × Obj)} (N : News h₀ L h (x :: y :: z :: (tl ++ news))) : News h₀ L h (x :: y :: z :: (news ++ tl)) := fun q hq => N q (by
  rcases List.mem_cons.mp hq with rfl | hq
  · exact .head _
  · rcases List.mem_cons.mp hq with rfl | hq
    · exact .tail _ (.head _)
    · rcases List.mem_cons.mp hq with rfl | hq
      · exact .tail _ (.tail _ (.head _))
      · exact .tail _ (.tail _ (.tail _ (mem_flip hq))))
section
variable {prog : Program} {w : World} {A : Around} {s : Shared} {h₀ : Heap} {L : Addr} {m : Str → Option Value} {env : Env}
theorem row_compEnd {I C D : Addr} {oI oC oD : Obj} {s₁ : Shared} {h' : Heap} {tk : Nat} {p : Addr × Obj} {tl news : List (Addr × Obj)} {y : Value} {r : RowD} (F : Fr h₀ L h' m) (N : News h₀ L h' (p :: (I, oI) :: (C, oC) :: (D, oD) :: (news ++ tl)))
    (off : LCg.Off3 I C D (tl ++ news)) (l : ∀ q ∈ (I, oI) :: (C, oC) :: (D, oD) :: (news ++ tl), @LT.lt Nat _ q.1 p.1) (hr : RowIn [p] y r) (hm : MidOk r) :
    LCg.CompEnd h₀ L m s₁ I oI C oC D oD (fun _ => True) (fun y news' => ∃ p r, news' = p :: (tl ++ news) ∧ RowIn [p] y r ∧ MidOk r) y { s₁ with heap := h', toks := tk } :=
  LCg.CompEnd.intro F N (p :: (tl ++ news)) (fun q hq => by
    rcases List.mem_cons.mp hq with rfl | hq
    · exact .tail _ (.head _)
    · rcases List.mem_cons.mp hq with rfl | hq
      · exact .tail _ (.tail _ (.head _))
      · rcases List.mem_cons.mp hq with rfl | hq
        · exact .tail _ (.tail _ (.tail _ (.head _)))
        · rcases List.mem_cons.mp hq with rfl | hq
          · exact .head _
          · exact .tail _ (.tail _ (.tail _ (.tail _ (mem_flip hq)))))
    ⟨⟨Nat.ne_of_gt (l _ (.head _)), Nat.ne_of_gt (l _ (.tail _ (.head _))), Nat.ne_of_gt (l _ (.tail _ (.tail _ (.head _))))⟩, off⟩ True.intro ⟨p, r, rfl, hr, hm⟩
theorem compU_go {elt : Expr} {x : Str} {scope : Scope} {cl : List (Str × Addr)} {Fin : List Value → List (Addr × Obj) → Prop} {n : Nat} {a₀ : Int} {news : List (Addr × Obj)}
    (step : ∀ (i : Nat) (t : Tok) (ys : List Value) (tl : List (Addr × Obj)) I oI C oC D m₂ h tk (E' : Value → Shared → Prop), i < n → LCg.NsObj oC m₂ → m₂ x = some (.int (a₀ + (i : Int)) t) → Fr h₀ L h m → News h₀ L h ((I, oI) :: (C, oC) :: (D, LCg.lst ys) :: (news ++ tl)) → LCg.Off3 I C D (tl ++ news) → ((@Ne Nat I C) ∧ (@Ne Nat I D) ∧ (@Ne Nat C D)) →
      wpAny (model prog w) A (eval elt (compEnvC scope cl C env)) (LCg.CompEnd h₀ L m { s with heap := h, toks := tk } I oI C oC D (LCg.lst ys) (fun _ => True) (fun y news' => ∃ p r, news' = p :: (tl ++ news) ∧ RowIn [p] y r ∧ MidOk r)) E' { s with heap := h, toks := tk })
    (fin : ∀ ys tl rs, RowsIn tl ys rs → rs.length = n → (∀ r ∈ rs, MidOk r) → Fin ys (tl ++ news)) :
    ∀ (rem i : Nat) (ys : List Value) (tl : List (Addr × Obj)) (rs : List RowD), i + rem = n → RowsIn tl ys rs → rs.length = i → (∀ r ∈ rs, MidOk r) →
      LCg.CompRest prog w A h₀ L m env elt x scope cl s (fun _ => True) (fun i v => ∃ t, v = .int (a₀ + (i : Int)) t) Fin rem i ys (tl ++ news) := by
  intro rem
  induction rem with
  | zero =>
    intro i ys tl rs hi hr hl hm
    exact LCg.CompRest.zero (fin ys tl rs hr (by omega) hm)
  | succ rem ih =>
    intro i ys tl rs hi hr hl hm
    refine LCg.CompRest.succ ?_
    rintro v I oI C oC D m₂ h tk E' ⟨t, rfl⟩ hC hx F N off ne
    refine wpAny_mono (step i t ys tl I oI C oC D m₂ h tk E' (by omega) hC hx F (news_flip3 N) off ne) (fun y s₂ q => ?_) fun _ _ e => e
    refine CompEnd.mono q fun n' ⟨p, r, e, hp, ho⟩ => ?_
    subst e
    refine ih (i + 1) _ (p :: tl) (rs ++ [r]) (by omega) ((hr.mono fun q hq => .tail _ hq).append (.cons (hp.mono fun q hq => by rw [List.mem_singleton.mp hq]; exact .head _) .nil)) (by rw [List.length_append, hl]; rfl) fun r' hr' => ?_
    rcases List.mem_append.mp hr' with hr' | hr'
    · exact hm r' hr'
    · rw [List.mem_singleton.mp hr']; exact ho
theorem srcU_rows {elt : Expr} {x : Str} {scope : Scope} {cl : List (Str × Addr)} {Fin : Shared → List Value → List (Addr × Obj) → Prop} {r : Addr} {b : Int} {t u v : Tok} {news : List (Addr × Obj)} {s₁ : Shared}
    (hh : A.handled = none) (F : Fr h₀ L s₁.heap m) (N : News h₀ L s₁.heap news) (hr : IsRange s₁.heap r 0 b 1 t u v) (hb0 : 0 ≤ b) (hb4 : b < 4)
    (step : ∀ (i : Nat) (t : Tok) (ys : List Value) (tl : List (Addr × Obj)) I oI C oC D m₂ h tk (E' : Value → Shared → Prop), (i : Int) < b → LCg.NsObj oC m₂ → m₂ x = some (.int (0 + (i : Int)) t) → Fr h₀ L h m → News h₀ L h ((I, oI) :: (C, oC) :: (D, LCg.lst ys) :: (news ++ tl)) → LCg.Off3 I C D (tl ++ news) → ((@Ne Nat I C) ∧ (@Ne Nat I D) ∧ (@Ne Nat C D)) →
      wpAny (model prog w) A (eval elt (compEnvC scope cl C env)) (LCg.CompEnd h₀ L m { s₁ with heap := h, toks := tk } I oI C oC D (LCg.lst ys) (fun _ => True) (fun y news' => ∃ p r, news' = p :: (tl ++ news) ∧ RowIn [p] y r ∧ MidOk r)) E' { s₁ with heap := h, toks := tk })
    (fin : ∀ g ys tl rs, RowsIn tl ys rs → (rs.length : Int) = b → (∀ r ∈ rs, MidOk r) → Fin { s₁ with heap := g } ys (tl ++ news)) :
    LCg.CompSrc prog w A h₀ L m env elt x scope cl Fin (.ref r) s₁ := by
  obtain ⟨n, rfl⟩ := Int.eq_ofNat_of_zero_le hb0
  have hn : n ≤ 8 := by omega
  refine LCg.CompSrc.range hh F N hr (small8 hn).1 (small8 hn).2 (by rw [sizeLine_eq]; omega) fun g => ?_
  exact compU_go (n := n) (s := { s₁ with heap := g }) (Fin := Fin { s₁ with heap := g }) (fun i t ys tl I oI C oC D m₂ h tk E' hi => step i t ys tl I oI C oC D m₂ h tk E' (by omega)) (fun ys tl rs h1 h2 h3 => fin g ys tl rs h1 (by omega) h3) n 0 [] [] [] (by omega) .nil rfl (fun _ h => nomatch h)
end
section
variable {prog : Program} {w : World} {A : Around} {E : Value → Shared → Prop} {s : Shared} {env : Env} {h₀ : Heap} {target : Expr} {body : List Stmt} {Q : Flow → Shared → Prop}
def rowFrame (m₀ : Str → Option Value) (v : Option Value) (b : Bool) : Str → Option Value := fun y => if y = Str.ofString "row" then v else if y = Str.ofString "sets_it" then some (.bool b) else m₀ y
theorem rows_items {keep : List (Addr × Obj)} {I : Addr} {m₀ : Str → Option Value} {news : List (Addr × Obj)} {reg : Int} (hlt : ∀ p ∈ news, p.1 < I) (hk : SubL keep news)
    (step : ∀ (a : Addr) (k : Kd) (d b o : Int) (t1 t2 t3 t4 : Tok) (c : Nat) (z : Bool) (v : Option Value) (oI : Obj) h tk, (a, tupObj k d b o t1 t2 t3 t4 c) ∈ news → MidOk ⟨k, d, b, o⟩ → Fr h₀ env.locals h (rowFrame m₀ v z) → News h₀ env.locals h ((I, oI) :: news) →
      wpAny (model prog w) A (assign target env (.ref a)) (fun _ s₂ => wpAny (model prog w) A (execs body env)
        (UnrPostW h₀ env.locals { s with heap := h, toks := tk } [(I, oI)] (fun m' n' => (∃ v', m' = rowFrame m₀ v' (z || midF ⟨k, d, b, o⟩ reg)) ∧ n' = news) Q) E s₂) E { s with heap := h, toks := tk }) :
    ∀ (vs : List Value) (rs : List RowD), RowsIn news vs rs → (∀ r ∈ rs, MidOk r) → ∀ (v : Option Value) (z : Bool),
      (∀ v' h tk, Fr h₀ env.locals h (rowFrame m₀ v' (z || rs.any fun r => midF r reg)) → News h₀ env.locals h news → Q .next { s with heap := h, toks := tk }) →
      ItemsRest prog w A E h₀ env target body Q s [(I, "list_iterator")] keep (vs.map .val) (rowFrame m₀ v z) news := by
  intro vs
  induction vs with
  | nil =>
    intro rs hr _ v z done
    cases hr
    exact ItemsRest.zero fun h tk F N => done v h tk (by rw [List.any_nil, Bool.or_false]; exact F) N
  | cons u vs ih =>
    intro rs hr hm v z done
    cases hr with
    | cons h1 ht =>
      cases h1 with
      | mk hmem =>
        rename_i rs a k d b o t1 t2 t3 t4 c
        refine ItemsRest.val fun h tk F => AllObj.cons fun oI hc => AllObj.nil fun N => ?_
        have hm1 := hm _ (.head _)
        refine wpAny_mono (step a k d b o t1 t2 t3 t4 c z v oI h tk hmem hm1 F N) (fun _ s₂ q => wpAny_mono q (fun f s₃ q => ?_) fun _ _ e => e) fun _ _ e => e
        have go : ∀ s₃, UnrEndW h₀ env.locals { s with heap := h, toks := tk } [(I, oI)] (fun m' n' => (∃ v', m' = rowFrame m₀ v' (z || midF ⟨k, d, b, o⟩ reg)) ∧ n' = news) s₃ →
            UnrEndW h₀ env.locals { s with heap := h, toks := tk } [(I, oI)] (fun m' n' => SubL keep n' ∧ ItemsRest prog w A E h₀ env target body Q s [(I, "list_iterator")] keep (vs.map .val) m' n') s₃ := by
          rintro s₃ ⟨h', tk', m', n', e, F', N', ho, ⟨v', rfl⟩, rfl⟩
          refine ⟨h', tk', _, _, e, F', N', ho, hk, ih rs ht (fun r hr => hm r (.tail _ hr)) v' _ fun v'' h'' tk'' F'' N'' => done v'' h'' tk'' ?_ N''⟩
          rw [Bool.or_assoc] at F''
          rw [List.any_cons]
          exact F''
        cases f with
        | ret v => exact q
        | brk => exact q
        | next => exact go _ q
        | cont => exact go _ q
theorem rows_end {I : Addr} {oI : Obj} {m₀ m' : Str → Option Value} {v' : Option Value} {z' : Bool} {news all : List (Addr × Obj)} {h' : Heap} {tk : Nat} {s₁ : Shared} (F : Fr h₀ env.locals h' m') (N : News h₀ env.locals h' all) (hlt : ∀ p ∈ news, p.1 < I)
    (hI : (I, oI) ∈ all) (hs : ∀ p ∈ news, p ∈ all) (hm : m' = rowFrame m₀ v' z') : UnrEndW h₀ env.locals s₁ [(I, oI)] (fun m' n' => (∃ v', m' = rowFrame m₀ v' z') ∧ n' = news) { s₁ with heap := h', toks := tk } :=
  ⟨h', tk, m', news, rfl, F, fun p hp => by
    rcases List.mem_append.mp hp with hp | hp
    · rw [List.mem_singleton.mp hp]; exact N _ hI
    · exact N _ (hs p hp), fun p hp q hq e => by
    rw [List.mem_singleton.mp hq] at e
    exact Nat.ne_of_lt (hlt p hp) e, ⟨v', hm⟩, rfl⟩
theorem iter_rows {D : Addr} {c : Nat} {vs : List Value} {rs : List RowD} {m₀ : Str → Option Value} {news : List (Addr × Obj)} {reg : Int} {v₀ : Option Value} {z₀ : Bool}
    (hh : A.handled = none) (F : Fr h₀ env.locals s.heap (rowFrame m₀ v₀ z₀)) (N : News h₀ env.locals s.heap news) (hm : (D, listOf vs.toArray c) ∈ news) (hr : RowsIn news vs rs) (hk : ∀ r ∈ rs, MidOk r)
    (step : ∀ (I : Addr), (∀ p ∈ news, p.1 < I) → ∀ (a : Addr) (k : Kd) (d b o : Int) (t1 t2 t3 t4 : Tok) (c : Nat) (z : Bool) (v : Option Value) (oI : Obj) h tk, (a, tupObj k d b o t1 t2 t3 t4 c) ∈ news → MidOk ⟨k, d, b, o⟩ → Fr h₀ env.locals h (rowFrame m₀ v z) → News h₀ env.locals h ((I, oI) :: news) →
      wpAny (model prog w) A (assign target env (.ref a)) (fun _ s₂ => wpAny (model prog w) A (execs body env)
        (UnrPostW h₀ env.locals { s with heap := h, toks := tk } [(I, oI)] (fun m' n' => (∃ v', m' = rowFrame m₀ v' (z || midF ⟨k, d, b, o⟩ reg)) ∧ n' = news) Q) E s₂) E { s with heap := h, toks := tk })
    (done : ∀ v' h tk, Fr h₀ env.locals h (rowFrame m₀ v' (z₀ || rs.any fun r => midF r reg)) → News h₀ env.locals h news → Q .next { s with heap := h, toks := tk }) :
    wpAny (model prog w) A (pyIter (.ref D)) (fun it s₂ => TurnsAt prog w A h₀ env target body Q E it s₂) E s :=
  iter_listTurns hh F N hm rfl rfl fun I hI => rows_items (keep := [(D, listOf vs.toArray c)]) hI (And.intro hm trivial) (step I hI) vs rs hr hk v₀ z₀ done
end
end Mine

namespace Mine
open PyProof.V PySem.Calls
theorem never_back {r : Value} {x y : RowD} (h : r = .bool (neverF x y)) (hx : x.k.mem = true) (hy : y.k.mem = true) : r = .bool (apartF x y) ∧ apartF y x = apartF x y :=
  ⟨h.trans (congrArg Value.bool (never_eq hx hy)), apart_symm x y⟩
section
variable {prog : Program} {w : World} {A : Around} {E : Value → Shared → Prop} {s : Shared}
theorem ne_same {c : Bool} {Q : Value → Shared → Prop} (h : Q (.bool false) s) : wpAny (model prog w) A (compareOp .NotEq (.bool c) (.bool c)) Q E s := ne_bool (by rw [bne_self_eq_false]; exact h)
end
local macro_rules | `(tactic| walk_at "eval Call") => `(tactic| (k_here; k_dflt (refine Call_ ?_)))
local macro_rules | `(tactic| ktr_rel) => `(tactic| first
  | exact RowArg.mk
  | exact BetArg.mk
  | exact Row2.mk (RowIn.mk (by k_mem)) (RowIn.mk (by k_mem))
  | exact row2_sl (List.Mem.tail _ (List.Mem.head _)) (List.Mem.head _))
local macro_rules | `(tactic| k_mem) => `(tactic| exact memL (by assumption))
local macro_rules | `(tactic| walk_at "compareOp NotEq bool bool") => `(tactic| (refine ne_same ?_))
local macro_rules | `(tactic| walk_at "exec For Name Name cons nil") => `(tactic| (k_here; (rename Fr _ _ _ _ => lF'); (with_unfolding_all refine' For_turns (hE := by first | assumption | passes_own) lF' ?_; k_whole)))
local macro_rules | `(tactic| walk_at "exec For Name Call cons nil") => `(tactic| (k_here; (rename Fr _ _ _ _ => lF'); (with_unfolding_all refine' For_turns (hE := by first | assumption | passes_own) lF' ?_; k_whole)))
local macro_rules | `(tactic| walk_at "exec Assign cons ListComp") => `(tactic| (k_here; k_dflt (refine LCg.Assign_ListComp_U (F₀ := by k_asm) (by rfl) (by with_unfolding_all rfl) (by with_unfolding_all rfl) (by decide) (by rfl) (by decide) (by rfl) (by rfl) (by rfl) ?_)))
local macro_rules | `(tactic| walk_at "CompSrc") => `(tactic| refine Halt.out ?_)
local macro_rules | `(tactic| walk_at "CompEnd") => `(tactic| refine Halt.out ?_)
local macro_rules | `(tactic| walk_at "UnrEnd") => `(tactic| refine Halt.out ?_)
local macro_rules | `(tactic| walk_at "UnrEndW") => `(tactic| refine Halt.out ?_)
local macro_rules | `(tactic| walk_at "call ref") => `(tactic| (k_here; k_dflt (first
  | (refine' tellsN_use ?k1 ?k2 ?k3 ?k4 ?k5 ?kK ?kR (row_tells _ _ _ _ _) ?ko ?kd ?ku ?_; (case k1 => k_asm); (case k2 => k_asm); (case k3 => k_asm); (case k4 => k_asm); (case k5 => k_asm); (case kK => first | exact rfl | assumption); (case kR => ktr_rel); (case ko => exact ⟨grit_get (by assumption) _, grit_get (by assumption) _⟩); (case kd => exact Nat.le_of_ble_eq_true rfl); (case ku => exact Nat.le_of_ble_eq_true rfl); intro r9 tl9 h9 tk9 F9 N9 hl9 ht9 ho9; (obtain ⟨p9, e9⟩ := ht9); subst e9; (obtain ⟨a9, k9, d9, b9, o9, t1, t2, t3, t4, c9, e9, hg9, hm9, hd9, hd9b, hb9, hb9b⟩ := ho9); subst e9; (obtain ⟨N10, l10⟩ := row_back N9 hl9 hg9); clear N9 hl9 hg9; (try k_lt l10); (try dsimp only); (try k_fold))
  | (refine' tellsN_use ?k1 ?k2 ?k3 ?k4 ?k5 ?kK ?kR (bet_tells _ _ _ _ _) ?ko ?kd ?ku ?_; (case k1 => k_asm); (case k2 => k_asm); (case k3 => k_asm); (case k4 => k_asm); (case k5 => k_asm); (case kK => first | exact rfl | assumption); (case kR => ktr_rel); (case ko => exact grit_get (by assumption) _); (case kd => exact Nat.le_of_ble_eq_true rfl); (case ku => exact Nat.le_of_ble_eq_true rfl); intro r9 tl9 h9 tk9 F9 N9 hl9 ht9 ho9; (obtain ⟨p9, e9⟩ := ht9); subst e9; (obtain ⟨a9, k9, d9, b9, o9, t1, t2, t3, t4, c9, e9, hg9, hk9, hd9, hd9b⟩ := ho9); subst e9; (obtain ⟨N10, l10⟩ := row_back N9 hl9 hg9); clear N9 hl9 hg9; (try k_lt l10); (try dsimp only); (try k_fold))
  | (refine' tellsN_use ?k1 ?k2 ?k3 ?k4 ?k5 ?kK ?kR (never_tells _ _ _ _ _) ?ko ?kd ?ku ?_; (case k1 => k_asm); (case k2 => k_asm); (case k3 => k_asm); (case k4 => k_asm); (case k5 => k_asm); (case kK => first | exact rfl | assumption); (case kR => ktr_rel); (case ko => trivial); (case kd => exact Nat.le_of_ble_eq_true rfl); (case ku => exact Nat.le_of_ble_eq_true rfl); intro r9 tl9 h9 tk9 F9 N9 hl9 ht9 ho9; subst ht9; clear hl9; (simp only [List.append_nil] at N9); (try dsimp only at ho9); (obtain ⟨e9, hS9⟩ := never_back ho9 (by first | assumption | rfl) (by first | assumption | rfl)); clear ho9; subst e9; (try dsimp only); (try k_fold))
  | (refine' tellsN_use ?k1 ?k2 ?k3 ?k4 ?k5 ?kK ?kR (apart_tells _ _ _ _ _) ?ko ?kd ?ku ?_; (case k1 => k_asm); (case k2 => k_asm); (case k3 => k_asm); (case k4 => k_asm); (case k5 => k_asm); (case kK => first | exact rfl | assumption); (case kR => ktr_rel); (case ko => trivial); (case kd => exact Nat.le_of_ble_eq_true rfl); (case ku => exact Nat.le_of_ble_eq_true rfl); intro r9 tl9 h9 tk9 F9 N9 hl9 ht9 ho9; subst ht9; clear hl9; (simp only [List.append_nil] at N9); (try dsimp only at ho9); (first | (have e9 := Eq.trans ho9 (congrArg Value.bool (by with_reducible assumption)); clear ho9; subst e9) | subst ho9); (try dsimp only); (try k_fold))
  | ((first | (show wpAny _ _ (call (Value.ref 112) _) _ _ _) | (show wpAny _ _ (call (Value.ref 117) _) _ _ _) | (show wpAny _ _ (call (Value.ref 77) _) _ _ _) | (show wpAny _ _ (call (Value.ref 124) _) _ _ _) | (show wpAny _ _ (call (Value.ref 91) _) _ _ _)); refine Halt.out ?_))))

def lawBody : List Stmt :=
  match PySem.Challenge.pw_pq0738_01.main.body.getLast? with
  | some (.FunctionDef _ _ body _ _ _ _ _ _ _) => body
  | _ => []
def lawScope : Scope :=
  match PySem.Challenge.pw_pq0738_01.main.body.getLast? with
  | some (.FunctionDef _ _ _ _ _ _ scope _ _ _) => scope
  | _ => { kind := .function, names := [], isGenerator := false, isCoroutine := false }
set_option maxRecDepth 100000 in
set_option maxHeartbeats 2000000 in
theorem law_tail {w : World} {mean : ExcName → Option Value} {mg mb : Str → Option Value} {h₀ : Heap} {L fa : Addr} {cdv : Value} {s : Shared} {m : Str → Option Value} {Q : Flow → Shared → Prop} {E : Value → Shared → Prop}
    (B : Below callerA h₀ [] h₀) (F : Fr h₀ L s.heap m) (X : (Mine.hd.heap_39 w.params).In h₀) (T : Top Mine.hd.view_39 (looseW Mine.hd.view_39 []) mean mg mb h₀)
    (hE : PassesOwn (model Challenge.rw_pq0738_01.row.prog w) (callerA.deeper (envOfC (Str.ofString "law") lawScope L fa cdv)) (envOfC (Str.ofString "law") lawScope L fa cdv) E)
    (hret : ∀ h' tk' m', Fr h₀ L h' m' → Q (.ret (.bool true)) { s with heap := h', toks := tk' }) :
    wpAny (model Challenge.rw_pq0738_01.row.prog w) (callerA.deeper (envOfC (Str.ofString "law") lawScope L fa cdv)) (execs (lawBody.drop 11) (envOfC (Str.ofString "law") lawScope L fa cdv)) Q E s := by
  k_with_none
  have N : News h₀ L s.heap [] := fun _ h => nomatch h
  dsimp only [lawBody, lawScope, PySem.Challenge.pw_pq0738_01, List.getLast?, List.getLast, List.drop] at hE ⊢
  k_steps
  rename IsRange _ _ _ _ _ _ _ _ => hr'
  rename Fr _ _ _ _ => FF
  rename News _ _ _ _ => NN
  k_dflt (refine' iter_rangeT (n := 19) ?a hr' ?b ?c FF NN (fun _ _ n' => n' = []) rfl ?step ?done)
  (case a => rfl)
  (case b => decide)
  (case c => decide)
  (case step =>
    intro I lI i t m₁ news₁ h₁ tk₁ hi hJ hne F1 N1
    subst hJ
    clear FF NN hr'
    change Fr h₀ L _ _ at F1
    change News h₀ L _ _ at N1
    k_steps
    all_goals (unfold Halt; rename News _ _ _ _ => NN; rename Fr _ _ _ _ => FF)
    exact UnrEnd.intro FF NN [] (fun p hp => by rw [List.mem_singleton.mp hp]; exact .tail _ (.tail _ (.head _))) (fun _ h => nomatch h) rfl)
  (case done =>
    intro h' tk m' news' F1 N1 hJ
    clear FF NN hr'
    change Fr h₀ L _ _ at F1
    k_steps
    exact hret _ _ _ F1)
end Mine

namespace Mine
open PyProof.V PySem.Calls
def dueF (x y : RowD) (z : Bool) : Bool := decide (x.b ≠ y.b) || z || !apartF x y
def due2F (x y : RowD) (z : Bool) : Bool := if x.k.load = true ∧ y.k.load = true then false else dueF x y z
theorem Kd.load_any (k : Kd) : (["LDR", "LDB"].any fun x => Str.ofString x == k.nm) = k.load := by cases k <;> decide +kernel
theorem any_sets {reg : Int} (h4 : 4 ≤ reg) (h5 : reg ≤ 5) : ∀ {rs : List RowD}, (∀ r ∈ rs, MidOk r) → (rs.any fun r => setsF r reg) = rs.any fun r => midF r reg
  | [], _ => rfl
  | r :: rs, h => by
    rw [List.any_cons, List.any_cons, any_sets h4 h5 fun r hr => h r (.tail _ hr), sets_eq (h r (.head _)).2.1 (h r (.head _)).2.2 h4 h5]
theorem meet_due {x y : RowD} {rs : List RowD} (hx : x.k.mem = true) (hy : y.k.mem = true) (hd0 : 0 ≤ x.d) (hd3 : x.d ≤ 3) (hb4 : 4 ≤ x.b) (hb5 : x.b ≤ 5) (hmid : ∀ r ∈ rs, MidOk r) :
    meetD (x :: (rs ++ [y]), rs.length + 1) = due2F x y (rs.any fun r => midF r x.b) := by
  have e0 : (x :: (rs ++ [y]))[0]? = some x := rfl
  have e1 : (x :: (rs ++ [y]))[rs.length + 1]? = some y := by simp
  rw [meetD_eq e0 e1]
  have ec : changedF ⟨x :: (rs ++ [y]), x.b, rs.length + 1⟩ = rs.any fun r => midF r x.b := by
    have et : (x :: (rs ++ [y])).take (rs.length + 1) = x :: rs := by simp
    unfold changedF
    rw [et, List.any_cons, sets_eq hd0 (by omega) hb4 hb5, any_sets hb4 hb5 hmid]
    have : midF x x.b = false := by
      unfold midF
      rw [decide_eq_false (by omega), Bool.and_false]
    rw [this, Bool.false_or]
  rw [ec]
  generalize (rs.any fun r => midF r x.b) = z
  unfold meetM due2F dueF
  rw [if_neg (by rw [hx, hy]; decide)]
  by_cases hl : x.k.load = true ∧ y.k.load = true
  · rw [if_pos hl, if_pos hl]
  · rw [if_neg hl, if_neg hl]
    by_cases hb : x.b = y.b
    · cases z <;> simp [hb]
    · simp [hb]
theorem me_law {nw tl : List (Addr × Obj)} {l a1 a2 : Addr} {c c1 c2 : Nat} {k1 k2 : Kd} {d1 b1 o1 d2 b2 o2 : Int} {t0 ti t1 t2 t3 t4 u1 u2 u3 u4 : Tok} {ys : List Value} {rs : List RowD} (hl : (l, listOf (Value.ref a1 :: (ys ++ [Value.ref a2])).toArray c) ∈ nw)
    (h2 : (a2, tupObj k2 d2 b2 o2 u1 u2 u3 u4 c2) ∈ nw) (h1 : (a1, tupObj k1 d1 b1 o1 t1 t2 t3 t4 c1) ∈ nw) (hs : ∀ p ∈ tl, p ∈ nw) (hrs : RowsIn tl ys rs) :
    MeIn nw [.ref l, .int 0 t0, .int (1 + (rs.length : Int)) ti] (⟨k1, d1, b1, o1⟩ :: (rs ++ [⟨k2, d2, b2, o2⟩]), rs.length + 1) := by
  have e : (1 + (rs.length : Int)) = ((rs.length + 1 : Nat) : Int) := by omega
  rw [e]
  exact MeIn.mk hl (.cons (.mk h1) ((hrs.mono hs).append (.cons (.mk h2) .nil)))
theorem me_ok {x y : RowD} {rs : List RowD} (hl : rs.length < 4) (hd0 : 0 ≤ x.d) (hd3 : x.d ≤ 3) (hb4 : 4 ≤ x.b) (hb5 : x.b ≤ 5) (he0 : 0 ≤ y.d) (he3 : y.d ≤ 3) (hmid : ∀ r ∈ rs, MidOk r) :
    meetC.Ok (x :: (rs ++ [y]), rs.length + 1) := by
  refine ⟨by simp, by show rs.length + 1 ≤ 8; omega, fun r hr => ?_, fun r hr => ?_⟩
  · rcases List.mem_cons.mp hr with rfl | hr
    · exact ⟨hd0, by omega⟩
    · rcases List.mem_append.mp hr with hr | hr
      · exact (hmid r hr).2
      · rw [List.mem_singleton.mp hr]; exact ⟨he0, by omega⟩
  · cases hr; exact ⟨hb4, hb5⟩
theorem row_start {m : Str → Option Value} {z : Bool} : (fun y => if y = Str.ofString "sets_it" then some (Value.bool z) else m y) = rowFrame m (m (Str.ofString "row")) z := by
  funext y
  unfold rowFrame
  by_cases h : y = Str.ofString "row"
  · subst h
    rw [if_neg (by decide), if_pos rfl]
  · rw [if_neg h]
theorem row_turn {m : Str → Option Value} {v w : Option Value} {z : Bool} : (fun y => if y = Str.ofString "row" then w else rowFrame m v z y) = rowFrame m w z := by
  funext y
  unfold rowFrame
  by_cases h : y = Str.ofString "row" <;> simp [h]
theorem row_turn2 {m : Str → Option Value} {v w : Option Value} {z : Bool} : (fun y => if y = Str.ofString "sets_it" then some (Value.bool true) else if y = Str.ofString "row" then w else rowFrame m v z y) = rowFrame m w true := by
  funext y
  unfold rowFrame
  by_cases h : y = Str.ofString "row"
  · subst h
    rw [if_neg (by decide), if_pos rfl, if_pos rfl]
  · rw [if_neg h, if_neg h, if_neg h]
    by_cases h' : y = Str.ofString "sets_it" <;> simp [h']
theorem nm_str {k : Kd} (h : (k.nm != Str.ofString "STR") = true) (hk : k ≠ .stb) : k.store = false := by
  cases k <;> first | rfl | (exfalso; revert h; decide +kernel) | exact absurd rfl hk
theorem nm_str' {k : Kd} (h : (k.nm != Str.ofString "STR") = false) : k.store = true := by
  cases k <;> first | rfl | (exfalso; revert h; decide +kernel)
end Mine

namespace Mine
open PyProof.V PySem.Calls
local macro_rules | `(tactic| walk_at "eval Call") => `(tactic| (k_here; k_dflt (refine Call_ ?_)))
local macro_rules | `(tactic| ktr_rel) => `(tactic| first
  | exact RowArg.mk
  | exact BetArg.mk
  | exact Row2.mk (RowIn.mk (by k_mem)) (RowIn.mk (by k_mem))
  | exact row2_sl (List.Mem.tail _ (List.Mem.head _)) (List.Mem.head _))
local macro_rules | `(tactic| k_mem) => `(tactic| exact memL (by assumption))
local macro_rules | `(tactic| walk_at "compareOp NotEq bool bool") => `(tactic| (refine ne_same ?_))
local macro_rules | `(tactic| walk_at "exec For Name Name cons nil") => `(tactic| (k_here; (rename Fr _ _ _ _ => lF'); (with_unfolding_all refine' For_turns (hE := by first | assumption | passes_own) lF' ?_; k_whole)))
local macro_rules | `(tactic| walk_at "exec For Name Call cons nil") => `(tactic| (k_here; (rename Fr _ _ _ _ => lF'); (with_unfolding_all refine' For_turns (hE := by first | assumption | passes_own) lF' ?_; k_whole)))
local macro_rules | `(tactic| walk_at "exec Assign cons ListComp") => `(tactic| (k_here; k_dflt (refine LCg.Assign_ListComp_U (F₀ := by k_asm) (by rfl) (by with_unfolding_all rfl) (by with_unfolding_all rfl) (by decide) (by rfl) (by decide) (by rfl) (by rfl) (by rfl) ?_)))
local macro_rules | `(tactic| walk_at "CompSrc") => `(tactic| refine Halt.out ?_)
local macro_rules | `(tactic| walk_at "CompEnd") => `(tactic| refine Halt.out ?_)
local macro_rules | `(tactic| walk_at "UnrEnd") => `(tactic| refine Halt.out ?_)
local macro_rules | `(tactic| walk_at "UnrEndW") => `(tactic| refine Halt.out ?_)
local macro_rules | `(tactic| walk_at "call ref") => `(tactic| (k_here; k_dflt (first
  | (refine' tellsN_use ?k1 ?k2 ?k3 ?k4 ?k5 ?kK ?kR (row_tells _ _ _ _ _) ?ko ?kd ?ku ?_; (case k1 => k_asm); (case k2 => k_asm); (case k3 => k_asm); (case k4 => k_asm); (case k5 => k_asm); (case kK => first | exact rfl | assumption); (case kR => ktr_rel); (case ko => exact ⟨grit_get (by assumption) _, grit_get (by assumption) _⟩); (case kd => exact Nat.le_of_ble_eq_true rfl); (case ku => exact Nat.le_of_ble_eq_true rfl); intro r9 tl9 h9 tk9 F9 N9 hl9 ht9 ho9; (obtain ⟨p9, e9⟩ := ht9); subst e9; (obtain ⟨a9, k9, d9, b9, o9, t1, t2, t3, t4, c9, e9, hg9, hm9, hd9, hd9b, hb9, hb9b⟩ := ho9); subst e9; (obtain ⟨N10, l10⟩ := row_back N9 hl9 hg9); clear N9 hl9 hg9; (try k_lt l10); (try dsimp only); (try k_fold))
  | (refine' tellsN_use ?k1 ?k2 ?k3 ?k4 ?k5 ?kK ?kR (bet_tells _ _ _ _ _) ?ko ?kd ?ku ?_; (case k1 => k_asm); (case k2 => k_asm); (case k3 => k_asm); (case k4 => k_asm); (case k5 => k_asm); (case kK => first | exact rfl | assumption); (case kR => ktr_rel); (case ko => exact grit_get (by assumption) _); (case kd => exact Nat.le_of_ble_eq_true rfl); (case ku => exact Nat.le_of_ble_eq_true rfl); intro r9 tl9 h9 tk9 F9 N9 hl9 ht9 ho9; (obtain ⟨p9, e9⟩ := ht9); subst e9; (obtain ⟨a9, k9, d9, b9, o9, t1, t2, t3, t4, c9, e9, hg9, hk9, hd9, hd9b⟩ := ho9); subst e9; (obtain ⟨N10, l10⟩ := row_back N9 hl9 hg9); clear N9 hl9 hg9; (try k_lt l10); (try dsimp only); (try k_fold))
  | (refine' tellsN_use ?k1 ?k2 ?k3 ?k4 ?k5 ?kK ?kR (never_tells _ _ _ _ _) ?ko ?kd ?ku ?_; (case k1 => k_asm); (case k2 => k_asm); (case k3 => k_asm); (case k4 => k_asm); (case k5 => k_asm); (case kK => first | exact rfl | assumption); (case kR => ktr_rel); (case ko => trivial); (case kd => exact Nat.le_of_ble_eq_true rfl); (case ku => exact Nat.le_of_ble_eq_true rfl); intro r9 tl9 h9 tk9 F9 N9 hl9 ht9 ho9; subst ht9; clear hl9; (simp only [List.append_nil] at N9); (try dsimp only at ho9); (obtain ⟨e9, hS9⟩ := never_back ho9 (by first | assumption | rfl) (by first | assumption | rfl)); clear ho9; subst e9; (try dsimp only); (try k_fold))
  | (refine' tellsN_use ?k1 ?k2 ?k3 ?k4 ?k5 ?kK ?kR (apart_tells _ _ _ _ _) ?ko ?kd ?ku ?_; (case k1 => k_asm); (case k2 => k_asm); (case k3 => k_asm); (case k4 => k_asm); (case k5 => k_asm); (case kK => first | exact rfl | assumption); (case kR => ktr_rel); (case ko => trivial); (case kd => exact Nat.le_of_ble_eq_true rfl); (case ku => exact Nat.le_of_ble_eq_true rfl); intro r9 tl9 h9 tk9 F9 N9 hl9 ht9 ho9; subst ht9; clear hl9; (simp only [List.append_nil] at N9); (try dsimp only at ho9); (first | (have e9 := Eq.trans ho9 (congrArg Value.bool (by with_reducible assumption)); clear ho9; subst e9) | subst ho9); (try dsimp only); (try k_fold))
  | ((first | (show wpAny _ _ (call (Value.ref 112) _) _ _ _) | (show wpAny _ _ (call (Value.ref 117) _) _ _ _) | (show wpAny _ _ (call (Value.ref 77) _) _ _ _) | (show wpAny _ _ (call (Value.ref 124) _) _ _ _) | (show wpAny _ _ (call (Value.ref 91) _) _ _ _)); refine Halt.out ?_))))

section
variable {M : Model} {A : Around} {E : Value → Shared → Prop} {s : Shared} {t : Sem Flow} {Q : Flow → Shared → Prop} {h₀ : Heap} {L : Addr}
def Joined (h₀ : Heap) (L : Addr) (m' : Str → Option Value) (news : List (Addr × Obj)) (s : Shared) (f : Flow) (s' : Shared) : Prop :=
  f = .next ∧ ∃ h tk, s' = { s with heap := h, toks := tk } ∧ Fr h₀ L h m' ∧ News h₀ L h news
theorem join_next {m' : Str → Option Value} {news : List (Addr × Obj)} (h1 : wpAny M A t (fun f s' => Joined h₀ L m' news s f s') E s)
    (h2 : ∀ h tk, Fr h₀ L h m' → News h₀ L h news → Q .next { s with heap := h, toks := tk }) : wpAny M A t Q E s := by
  refine wpAny_mono h1 (fun f s' hq => ?_) fun _ _ e => e
  obtain ⟨rfl, h, tk, rfl, F, N⟩ := hq
  exact h2 h tk F N
theorem join1 {m₀ : Str → Option Value} {news : List (Addr × Obj)} (b : Bool) (_ : Fr h₀ L s.heap m₀) (_ : News h₀ L s.heap news) (h1 : wpAny M A t (fun f s' => Joined h₀ L (fun y => if y = Str.ofString "due" then some (.bool b) else m₀ y) news s f s') E s)
    (h2 : ∀ h tk, Fr h₀ L h (fun y => if y = Str.ofString "due" then some (.bool b) else m₀ y) → News h₀ L h news → Q .next { s with heap := h, toks := tk }) : wpAny M A t Q E s := join_next h1 h2
theorem join2 {m₀ : Str → Option Value} {news : List (Addr × Obj)} {b₀ : Bool} (b : Bool) (_ : Fr h₀ L s.heap (fun y => if y = Str.ofString "due" then some (.bool b₀) else m₀ y)) (_ : News h₀ L s.heap news) (h1 : wpAny M A t (fun f s' => Joined h₀ L (fun y => if y = Str.ofString "due" then some (.bool b) else m₀ y) news s f s') E s)
    (h2 : ∀ h tk, Fr h₀ L h (fun y => if y = Str.ofString "due" then some (.bool b) else m₀ y) → News h₀ L h news → Q .next { s with heap := h, toks := tk }) : wpAny M A t Q E s := join_next h1 h2
theorem joined {m₁ m' : Str → Option Value} {news all : List (Addr × Obj)} {h : Heap} {tk : Nat} (F : Fr h₀ L h m₁) (N : News h₀ L h all) (hs : ∀ p ∈ news, p ∈ all) (e : m₁ = m') : Joined h₀ L m' news s .next { s with heap := h, toks := tk } :=
  ⟨rfl, h, tk, rfl, e ▸ F, fun p hp => N p (hs p hp)⟩
end

theorem join_mem1 {m₁ m' : Str → Option Value} {news : List (Addr × Obj)} {h₀ h : Heap} {L : Addr} {tk : Nat} {s : Shared} (F : Fr h₀ L h m₁) (N : News h₀ L h news) (e : m₁ = m') : Joined h₀ L m' news s .next { s with heap := h, toks := tk } := joined F N (fun _ h => h) e
theorem due_tt {m : Str → Option Value} {b c : Bool} (h : b = c) : (fun y => if y = Str.ofString "due" then some (Value.bool b) else m y) = fun y => if y = Str.ofString "due" then some (Value.bool c) else m y := by rw [h]
theorem due_over {m : Str → Option Value} {a b c : Bool} (h : b = c) : (fun y => if y = Str.ofString "due" then some (Value.bool b) else if y = Str.ofString "due" then some (Value.bool a) else m y) = fun y => if y = Str.ofString "due" then some (Value.bool c) else m y := by
  subst h
  funext y
  by_cases h : y = Str.ofString "due" <;> simp [h]
section
variable {prog : Program} {w : World} {A : Around} {E : Value → Shared → Prop} {s : Shared}
theorem len_rows {h₀ : Heap} {L D : Addr} {c k : Nat} {vs : List Value} {news : List (Addr × Obj)} {Q : Value → Shared → Prop} (N : News h₀ L s.heap news) (hm : (D, listOf vs.toArray c) ∈ news) (e : vs.length = k) (hk : k < 4) (h : Q (.int (k : Nat) (s.toks + 1)) { s with toks := s.toks + 1 + 1 }) :
    wpAny (model prog w) A (call (.builtin "len") [.ref D]) Q E s := KM.len_K N hm (by rw [List.size_toArray]; exact e) (by omega) h
end
local macro_rules | `(tactic| walk_at "call builtin:len") => `(tactic| (k_here; k_dflt (refine' len_rows ?N ?m ?e ?l ?_; (case N => k_asm); (case m => k_mem); (case e => assumption); (case l => assumption))))
local macro_rules | `(tactic| walk_at "execs cons") => `(tactic| ((with_reducible show wpAny _ _ (execs (Stmt.For _ (Expr.Call _ _ _ _) _ _ _ :: _) _) _ _ _); refine Halt.out ?_))
local macro_rules | `(tactic| ktr_rel) => `(tactic| exact me_law (.head _) (.tail _ (.tail _ (.tail _ (.tail _ (.tail _ (.head _)))))) (.tail _ (.tail _ (.tail _ (.tail _ (.tail _ (.tail _ (.head _))))))) (fun p hp => .tail _ (.tail _ (.tail _ (.tail _ (.tail _ (.tail _ (.tail _ hp))))))) (by assumption))
local macro_rules | `(tactic| walk_at "call ref") => `(tactic| (k_here; k_dflt (
  (refine' tellsN_use ?k1 ?k2 ?k3 ?k4 ?k5 ?kK ?kR (meet_tells _ _ _ _ _) ?ko ?kd ?ku ?_; (case k1 => k_asm); (case k2 => k_asm); (case k3 => k_asm); (case k4 => k_asm); (case k5 => k_asm); (case kK => first | exact rfl | assumption); (case kR => ktr_rel); (case ko => assumption); (case kd => exact Nat.le_of_ble_eq_true rfl); (case ku => exact Nat.le_of_ble_eq_true rfl); intro r9 tl9 h9 tk9 F9 N9 hl9 ht9 ho9; subst ht9; clear hl9; (simp only [List.append_nil] at N9); (try dsimp only at ho9); (have e9 := Eq.trans ho9 (congrArg Value.bool (by assumption))); clear ho9; subst e9; (try dsimp only); (try k_fold)))))
local macro_rules | `(tactic| walk_at "exec Assign") => `(tactic| ((with_reducible show wpAny _ _ (exec (Stmt.Assign _ (Expr.BoolOp BoolOp.Or _ _) _) _) _ _ _); (fail_if_success (with_reducible show wpAny _ _ _ (fun f s' => Joined _ _ _ _ _ f s') _ _)); refine Halt.out ?_))
local macro_rules | `(tactic| walk_at "exec If") => `(tactic| ((with_reducible show wpAny _ _ (exec (Stmt.If (Expr.BoolOp BoolOp.And _ _) _ _ _) _) _ _ _); (fail_if_success (with_reducible show wpAny _ _ _ (fun f s' => Joined _ _ _ _ _ f s') _ _)); refine Halt.out ?_))
local macro_rules | `(tactic| walk_at "Joined") => `(tactic| (refine Halt.out ?_))
set_option maxRecDepth 100000 in
set_option maxHeartbeats 2000000 in
theorem law_mid2 {w : World} {mean : ExcName → Option Value} {mg mb : Str → Option Value} {h₀ : Heap} {L fa a1 a2 D : Addr} {cdv : Value} {s : Shared} {m : Str → Option Value} {v' : Option Value} {k1 k2 : Kd} {d1 b1 o1 d2 b2 o2 : Int} {t1 t2 t3 t4 u1 u2 u3 u4 : Tok} {c1 c2 : Nat}
    {ys : List Value} {tl : List (Addr × Obj)} {rs : List RowD} {Q : Flow → Shared → Prop} {E : Value → Shared → Prop}
    (B : Below callerA h₀ [] h₀) (X : (Mine.hd.heap_39 w.params).In h₀) (T : Top Mine.hd.view_39 (looseW Mine.hd.view_39 []) mean mg mb h₀)
    (F : Fr h₀ L s.heap (rowFrame (fun y => if y = Str.ofString "middle" then some (.ref D) else (fun y => if y = Str.ofString "never" then some (.bool (apartF ⟨k1, d1, b1, o1⟩ ⟨k2, d2, b2, o2⟩)) else if y = Str.ofString "second" then some (.ref a2) else if y = Str.ofString "first" then some (.ref a1) else m y) y) v' (rs.any fun r => midF r b1)))
    (N : News h₀ L s.heap ((D, LCg.lst ys) :: (a2, tupObj k2 d2 b2 o2 u1 u2 u3 u4 c2) :: (a1, tupObj k1 d1 b1 o1 t1 t2 t3 t4 c1) :: tl))
    (hrs : RowsIn tl ys rs) (hl : rs.length < 4) (hmid : ∀ r ∈ rs, MidOk r)
    (hm1 : k1.mem = true) (hm2 : k2.mem = true) (hd1 : 0 ≤ d1) (hd1b : d1 ≤ 3) (hb1 : 4 ≤ b1) (hb1b : b1 ≤ 5) (hd2 : 0 ≤ d2) (hd2b : d2 ≤ 3)
    (hE : PassesOwn (model Challenge.rw_pq0738_01.row.prog w) (callerA.deeper (envOfC (Str.ofString "law") lawScope L fa cdv)) (envOfC (Str.ofString "law") lawScope L fa cdv) E)
    (hret : ∀ h' tk' m', Fr h₀ L h' m' → Q (.ret (.bool true)) { s with heap := h', toks := tk' }) :
    wpAny (model Challenge.rw_pq0738_01.row.prog w) (callerA.deeper (envOfC (Str.ofString "law") lawScope L fa cdv)) (execs (lawBody.drop 8) (envOfC (Str.ofString "law") lawScope L fa cdv)) Q E s := by
  k_with_none
  have hE0 := hE
  have hys : ys.length = rs.length := hrs.len
  dsimp only [lawBody, lawScope, PySem.Challenge.pw_pq0738_01, List.getLast?, List.getLast, List.drop] at hE ⊢
  have hmd := meet_due (x := ⟨k1, d1, b1, o1⟩) (y := ⟨k2, d2, b2, o2⟩) hm1 hm2 hd1 hd1b hb1 hb1b hmid
  have hok9 := me_ok (x := ⟨k1, d1, b1, o1⟩) (y := ⟨k2, d2, b2, o2⟩) hl hd1 hd1b hb1 hb1b hd2 hd2b hmid
  dsimp only at hmd
  generalize hz : (rs.any fun r => midF r b1) = z at F hmd
  k_steps
  unfold Halt
  refine join1 (dueF ⟨k1, d1, b1, o1⟩ ⟨k2, d2, b2, o2⟩ z) F N ?_ ?_
  · k_steps
    all_goals (unfold Halt; rename News _ _ _ _ => NN; rename Fr _ _ _ _ => FF)
    · exact joined FF NN (fun _ h => h) (due_tt (by simp only [dueF]; rename b1 ≠ b2 => hne; simp [hne]))
    · exact joined FF NN (fun _ h => h) (due_tt (by simp only [dueF]; rename z = true => hzt; simp [hzt]))
    · exact joined FF NN (fun _ h => h) (due_tt (by simp only [dueF]; rename z = false => hzt; rename b1 = b2 => heq; simp [hzt, heq]))
  intro h tk F2 N2
  clear F N
  k_steps
  unfold Halt
  refine join2 (due2F ⟨k1, d1, b1, o1⟩ ⟨k2, d2, b2, o2⟩ z) F2 N2 ?_ ?_
  · k_steps
    all_goals (unfold Halt; rename News _ _ _ _ => NN; rename Fr _ _ _ _ => FF)
    · rename (List.any _ fun x => x == k1.nm) = true => q1
      rename (List.any _ fun x => x == k2.nm) = true => q2
      exact joined FF NN (fun _ h => .tail _ (.tail _ h)) (due_over (by rw [due2F, if_pos ⟨(Kd.load_any k1).symm.trans q1, (Kd.load_any k2).symm.trans q2⟩]))
    · rename (List.any _ fun x => x == k2.nm) = false => q2
      have q3 : k2.load = false := (Kd.load_any k2).symm.trans q2
      exact joined FF NN (fun _ h => .tail _ (.tail _ h)) (due_tt (by rw [due2F, if_neg (by dsimp only; rw [q3]; simp)]))
    · rename (List.any _ fun x => x == k1.nm) = false => q2
      have q3 : k1.load = false := (Kd.load_any k1).symm.trans q2
      exact joined FF NN (fun _ h => .tail _ h) (due_tt (by rw [due2F, if_neg (by dsimp only; rw [q3]; simp)]))
  intro h tk F3 N3
  clear F2 N2
  k_steps

  unfold Halt
  rename Fr _ _ _ _ => FF
  exact law_tail B FF X T hE0 (fun h' tk' m' F' => hret h' tk' m' F')
end Mine

namespace Mine
open PyProof.V PySem.Calls
local macro_rules | `(tactic| walk_at "eval Call") => `(tactic| (k_here; k_dflt (refine Call_ ?_)))
local macro_rules | `(tactic| ktr_rel) => `(tactic| first
  | exact RowArg.mk
  | exact BetArg.mk
  | exact Row2.mk (RowIn.mk (by k_mem)) (RowIn.mk (by k_mem))
  | exact row2_sl (List.Mem.tail _ (List.Mem.head _)) (List.Mem.head _))
local macro_rules | `(tactic| k_mem) => `(tactic| exact memL (by assumption))
local macro_rules | `(tactic| walk_at "compareOp NotEq bool bool") => `(tactic| (refine ne_same ?_))
local macro_rules | `(tactic| walk_at "exec For Name Name cons nil") => `(tactic| (k_here; (rename Fr _ _ _ _ => lF'); (with_unfolding_all refine' For_turns (hE := by first | assumption | passes_own) lF' ?_; k_whole)))
local macro_rules | `(tactic| walk_at "exec For Name Call cons nil") => `(tactic| (k_here; (rename Fr _ _ _ _ => lF'); (with_unfolding_all refine' For_turns (hE := by first | assumption | passes_own) lF' ?_; k_whole)))
local macro_rules | `(tactic| walk_at "exec Assign cons ListComp") => `(tactic| (k_here; k_dflt (refine LCg.Assign_ListComp_U (F₀ := by k_asm) (by rfl) (by with_unfolding_all rfl) (by with_unfolding_all rfl) (by decide) (by rfl) (by decide) (by rfl) (by rfl) (by rfl) ?_)))
local macro_rules | `(tactic| walk_at "CompSrc") => `(tactic| refine Halt.out ?_)
local macro_rules | `(tactic| walk_at "CompEnd") => `(tactic| refine Halt.out ?_)
local macro_rules | `(tactic| walk_at "UnrEnd") => `(tactic| refine Halt.out ?_)
local macro_rules | `(tactic| walk_at "UnrEndW") => `(tactic| refine Halt.out ?_)
local macro_rules | `(tactic| walk_at "call ref") => `(tactic| (k_here; k_dflt (first
  | (refine' tellsN_use ?k1 ?k2 ?k3 ?k4 ?k5 ?kK ?kR (row_tells _ _ _ _ _) ?ko ?kd ?ku ?_; (case k1 => k_asm); (case k2 => k_asm); (case k3 => k_asm); (case k4 => k_asm); (case k5 => k_asm); (case kK => first | exact rfl | assumption); (case kR => ktr_rel); (case ko => exact ⟨grit_get (by assumption) _, grit_get (by assumption) _⟩); (case kd => exact Nat.le_of_ble_eq_true rfl); (case ku => exact Nat.le_of_ble_eq_true rfl); intro r9 tl9 h9 tk9 F9 N9 hl9 ht9 ho9; (obtain ⟨p9, e9⟩ := ht9); subst e9; (obtain ⟨a9, k9, d9, b9, o9, t1, t2, t3, t4, c9, e9, hg9, hm9, hd9, hd9b, hb9, hb9b⟩ := ho9); subst e9; (obtain ⟨N10, l10⟩ := row_back N9 hl9 hg9); clear N9 hl9 hg9; (try k_lt l10); (try dsimp only); (try k_fold))
  | (refine' tellsN_use ?k1 ?k2 ?k3 ?k4 ?k5 ?kK ?kR (bet_tells _ _ _ _ _) ?ko ?kd ?ku ?_; (case k1 => k_asm); (case k2 => k_asm); (case k3 => k_asm); (case k4 => k_asm); (case k5 => k_asm); (case kK => first | exact rfl | assumption); (case kR => ktr_rel); (case ko => exact grit_get (by assumption) _); (case kd => exact Nat.le_of_ble_eq_true rfl); (case ku => exact Nat.le_of_ble_eq_true rfl); intro r9 tl9 h9 tk9 F9 N9 hl9 ht9 ho9; (obtain ⟨p9, e9⟩ := ht9); subst e9; (obtain ⟨a9, k9, d9, b9, o9, t1, t2, t3, t4, c9, e9, hg9, hk9, hd9, hd9b⟩ := ho9); subst e9; (obtain ⟨N10, l10⟩ := row_back N9 hl9 hg9); clear N9 hl9 hg9; (try k_lt l10); (try dsimp only); (try k_fold))
  | (refine' tellsN_use ?k1 ?k2 ?k3 ?k4 ?k5 ?kK ?kR (never_tells _ _ _ _ _) ?ko ?kd ?ku ?_; (case k1 => k_asm); (case k2 => k_asm); (case k3 => k_asm); (case k4 => k_asm); (case k5 => k_asm); (case kK => first | exact rfl | assumption); (case kR => ktr_rel); (case ko => trivial); (case kd => exact Nat.le_of_ble_eq_true rfl); (case ku => exact Nat.le_of_ble_eq_true rfl); intro r9 tl9 h9 tk9 F9 N9 hl9 ht9 ho9; subst ht9; clear hl9; (simp only [List.append_nil] at N9); (try dsimp only at ho9); (obtain ⟨e9, hS9⟩ := never_back ho9 (by first | assumption | rfl) (by first | assumption | rfl)); clear ho9; subst e9; (try dsimp only); (try k_fold))
  | (refine' tellsN_use ?k1 ?k2 ?k3 ?k4 ?k5 ?kK ?kR (apart_tells _ _ _ _ _) ?ko ?kd ?ku ?_; (case k1 => k_asm); (case k2 => k_asm); (case k3 => k_asm); (case k4 => k_asm); (case k5 => k_asm); (case kK => first | exact rfl | assumption); (case kR => ktr_rel); (case ko => trivial); (case kd => exact Nat.le_of_ble_eq_true rfl); (case ku => exact Nat.le_of_ble_eq_true rfl); intro r9 tl9 h9 tk9 F9 N9 hl9 ht9 ho9; subst ht9; clear hl9; (simp only [List.append_nil] at N9); (try dsimp only at ho9); (first | (have e9 := Eq.trans ho9 (congrArg Value.bool (by with_reducible assumption)); clear ho9; subst e9) | subst ho9); (try dsimp only); (try k_fold))
  | ((first | (show wpAny _ _ (call (Value.ref 112) _) _ _ _) | (show wpAny _ _ (call (Value.ref 117) _) _ _ _) | (show wpAny _ _ (call (Value.ref 77) _) _ _ _) | (show wpAny _ _ (call (Value.ref 124) _) _ _ _) | (show wpAny _ _ (call (Value.ref 91) _) _ _ _)); refine Halt.out ?_))))
set_option maxRecDepth 100000 in
set_option maxHeartbeats 2000000 in
theorem law_mid {w : World} {mean : ExcName → Option Value} {mg mb : Str → Option Value} {h₀ : Heap} {L fa a1 a2 D : Addr} {cdv : Value} {s : Shared} {m : Str → Option Value} {k1 k2 : Kd} {d1 b1 o1 d2 b2 o2 : Int} {t1 t2 t3 t4 u1 u2 u3 u4 : Tok} {c1 c2 : Nat}
    {ys : List Value} {tl : List (Addr × Obj)} {rs : List RowD} {Q : Flow → Shared → Prop} {E : Value → Shared → Prop}
    (B : Below callerA h₀ [] h₀) (X : (Mine.hd.heap_39 w.params).In h₀) (T : Top Mine.hd.view_39 (looseW Mine.hd.view_39 []) mean mg mb h₀)
    (F : Fr h₀ L s.heap (fun y => if y = Str.ofString "sets_it" then some (Value.bool false) else (fun y => if y = Str.ofString "middle" then some (.ref D) else (fun y => if y = Str.ofString "never" then some (.bool (apartF ⟨k1, d1, b1, o1⟩ ⟨k2, d2, b2, o2⟩)) else if y = Str.ofString "second" then some (.ref a2) else if y = Str.ofString "first" then some (.ref a1) else m y) y) y))
    (N : News h₀ L s.heap ((D, LCg.lst ys) :: (a2, tupObj k2 d2 b2 o2 u1 u2 u3 u4 c2) :: (a1, tupObj k1 d1 b1 o1 t1 t2 t3 t4 c1) :: tl))
    (hrs : RowsIn tl ys rs) (hl : rs.length < 4) (hmid : ∀ r ∈ rs, MidOk r)
    (hm1 : k1.mem = true) (hm2 : k2.mem = true) (hd1 : 0 ≤ d1) (hd1b : d1 ≤ 3) (hb1 : 4 ≤ b1) (hb1b : b1 ≤ 5) (hd2 : 0 ≤ d2) (hd2b : d2 ≤ 3)
    (hE : PassesOwn (model Challenge.rw_pq0738_01.row.prog w) (callerA.deeper (envOfC (Str.ofString "law") lawScope L fa cdv)) (envOfC (Str.ofString "law") lawScope L fa cdv) E)
    (hret : ∀ h' tk' m', Fr h₀ L h' m' → Q (.ret (.bool true)) { s with heap := h', toks := tk' }) :
    wpAny (model Challenge.rw_pq0738_01.row.prog w) (callerA.deeper (envOfC (Str.ofString "law") lawScope L fa cdv)) (execs (lawBody.drop 7) (envOfC (Str.ofString "law") lawScope L fa cdv)) Q E s := by
  k_with_none
  have hE0 := hE
  have hys : ys.length = rs.length := hrs.len
  dsimp only [lawBody, lawScope, PySem.Challenge.pw_pq0738_01, List.getLast?, List.getLast, List.drop] at hE ⊢
  k_steps
  rename Fr _ _ _ _ => FF
  rename News _ _ _ _ => NN
  rw [row_start] at FF
  k_dflt (refine' iter_rows (c := ys.length) (reg := b1) ?hh FF NN (.head _) (hrs.mono fun p hp => .tail _ (.tail _ (.tail _ hp))) hmid ?step ?done)
  (case hh => rfl)
  (case step =>
    clear FF NN
    intro I lI a k d b o x1 x2 x3 x4 c z v oI h tk hmem hok F1 N1
    change Fr h₀ L _ _ at F1
    change News h₀ L _ _ at N1
    obtain ⟨hok1, hok2, hok3⟩ := hok
    dsimp only at hok1 hok2 hok3
    k_steps
    all_goals (unfold Halt; rename News _ _ _ _ => NN; rename Fr _ _ _ _ => FF)
    · rename (Kd.nm k != _) = true => q1
      rename d = b1 => q2
      exact rows_end (v' := some (.ref a)) FF NN lI (.head _) (fun p hp => .tail _ hp) (row_turn2.trans (by rw [midF, nm_str q1 hok1, decide_eq_true q2]; simp))
    · rename (Kd.nm k != _) = true => q1
      rename d ≠ b1 => q2
      exact rows_end (v' := some (.ref a)) FF NN lI (.head _) (fun p hp => .tail _ hp) (row_turn.trans (by rw [midF, decide_eq_false q2]; simp))
    · rename (Kd.nm k != _) = false => q1
      exact rows_end (v' := some (.ref a)) FF NN lI (.head _) (fun p hp => .tail _ hp) (row_turn.trans (by rw [midF, nm_str' q1]; simp)))
  (case done =>
    clear FF NN
    intro v' h tk F1 N1
    change Fr h₀ L _ _ at F1
    change News h₀ L _ _ at N1
    rw [Bool.false_or] at F1
    exact law_mid2 B X T F1 N1 hrs hl hmid hm1 hm2 hd1 hd1b hb1 hb1b hd2 hd2b hE0 (fun h' tk' m' F' => hret h' tk' m' F'))
end Mine

namespace Mine
open PyProof.V PySem.Calls
local macro_rules | `(tactic| walk_at "eval Call") => `(tactic| (k_here; k_dflt (refine Call_ ?_)))
local macro_rules | `(tactic| ktr_rel) => `(tactic| first
  | exact RowArg.mk
  | exact BetArg.mk
  | exact Row2.mk (RowIn.mk (by k_mem)) (RowIn.mk (by k_mem))
  | exact row2_sl (List.Mem.tail _ (List.Mem.head _)) (List.Mem.head _))
local macro_rules | `(tactic| k_mem) => `(tactic| exact memL (by assumption))
local macro_rules | `(tactic| walk_at "compareOp NotEq bool bool") => `(tactic| (refine ne_same ?_))
local macro_rules | `(tactic| walk_at "exec For Name Name cons nil") => `(tactic| (k_here; (rename Fr _ _ _ _ => lF'); (with_unfolding_all refine' For_turns (hE := by first | assumption | passes_own) lF' ?_; k_whole)))
local macro_rules | `(tactic| walk_at "exec For Name Call cons nil") => `(tactic| (k_here; (rename Fr _ _ _ _ => lF'); (with_unfolding_all refine' For_turns (hE := by first | assumption | passes_own) lF' ?_; k_whole)))
local macro_rules | `(tactic| walk_at "exec Assign cons ListComp") => `(tactic| (k_here; k_dflt (refine LCg.Assign_ListComp_U (F₀ := by k_asm) (by rfl) (by with_unfolding_all rfl) (by with_unfolding_all rfl) (by decide) (by rfl) (by decide) (by rfl) (by rfl) (by rfl) ?_)))
local macro_rules | `(tactic| walk_at "CompSrc") => `(tactic| refine Halt.out ?_)
local macro_rules | `(tactic| walk_at "CompEnd") => `(tactic| refine Halt.out ?_)
local macro_rules | `(tactic| walk_at "UnrEnd") => `(tactic| refine Halt.out ?_)
local macro_rules | `(tactic| walk_at "UnrEndW") => `(tactic| refine Halt.out ?_)
local macro_rules | `(tactic| walk_at "call ref") => `(tactic| (k_here; k_dflt (first
  | (refine' tellsN_use ?k1 ?k2 ?k3 ?k4 ?k5 ?kK ?kR (row_tells _ _ _ _ _) ?ko ?kd ?ku ?_; (case k1 => k_asm); (case k2 => k_asm); (case k3 => k_asm); (case k4 => k_asm); (case k5 => k_asm); (case kK => first | exact rfl | assumption); (case kR => ktr_rel); (case ko => exact ⟨grit_get (by assumption) _, grit_get (by assumption) _⟩); (case kd => exact Nat.le_of_ble_eq_true rfl); (case ku => exact Nat.le_of_ble_eq_true rfl); intro r9 tl9 h9 tk9 F9 N9 hl9 ht9 ho9; (obtain ⟨p9, e9⟩ := ht9); subst e9; (obtain ⟨a9, k9, d9, b9, o9, t1, t2, t3, t4, c9, e9, hg9, hm9, hd9, hd9b, hb9, hb9b⟩ := ho9); subst e9; (obtain ⟨N10, l10⟩ := row_back N9 hl9 hg9); clear N9 hl9 hg9; (try k_lt l10); (try dsimp only); (try k_fold))
  | (refine' tellsN_use ?k1 ?k2 ?k3 ?k4 ?k5 ?kK ?kR (bet_tells _ _ _ _ _) ?ko ?kd ?ku ?_; (case k1 => k_asm); (case k2 => k_asm); (case k3 => k_asm); (case k4 => k_asm); (case k5 => k_asm); (case kK => first | exact rfl | assumption); (case kR => ktr_rel); (case ko => exact grit_get (by assumption) _); (case kd => exact Nat.le_of_ble_eq_true rfl); (case ku => exact Nat.le_of_ble_eq_true rfl); intro r9 tl9 h9 tk9 F9 N9 hl9 ht9 ho9; (obtain ⟨p9, e9⟩ := ht9); subst e9; (obtain ⟨a9, k9, d9, b9, o9, t1, t2, t3, t4, c9, e9, hg9, hk9, hd9, hd9b⟩ := ho9); subst e9; (obtain ⟨N10, l10⟩ := row_back N9 hl9 hg9); clear N9 hl9 hg9; (try k_lt l10); (try dsimp only); (try k_fold))
  | (refine' tellsN_use ?k1 ?k2 ?k3 ?k4 ?k5 ?kK ?kR (never_tells _ _ _ _ _) ?ko ?kd ?ku ?_; (case k1 => k_asm); (case k2 => k_asm); (case k3 => k_asm); (case k4 => k_asm); (case k5 => k_asm); (case kK => first | exact rfl | assumption); (case kR => ktr_rel); (case ko => trivial); (case kd => exact Nat.le_of_ble_eq_true rfl); (case ku => exact Nat.le_of_ble_eq_true rfl); intro r9 tl9 h9 tk9 F9 N9 hl9 ht9 ho9; subst ht9; clear hl9; (simp only [List.append_nil] at N9); (try dsimp only at ho9); (obtain ⟨e9, hS9⟩ := never_back ho9 (by first | assumption | rfl) (by first | assumption | rfl)); clear ho9; subst e9; (try dsimp only); (try k_fold))
  | (refine' tellsN_use ?k1 ?k2 ?k3 ?k4 ?k5 ?kK ?kR (apart_tells _ _ _ _ _) ?ko ?kd ?ku ?_; (case k1 => k_asm); (case k2 => k_asm); (case k3 => k_asm); (case k4 => k_asm); (case k5 => k_asm); (case kK => first | exact rfl | assumption); (case kR => ktr_rel); (case ko => trivial); (case kd => exact Nat.le_of_ble_eq_true rfl); (case ku => exact Nat.le_of_ble_eq_true rfl); intro r9 tl9 h9 tk9 F9 N9 hl9 ht9 ho9; subst ht9; clear hl9; (simp only [List.append_nil] at N9); (try dsimp only at ho9); (first | (have e9 := Eq.trans ho9 (congrArg Value.bool (by with_reducible assumption)); clear ho9; subst e9) | subst ho9); (try dsimp only); (try k_fold))
  | ((first | (show wpAny _ _ (call (Value.ref 112) _) _ _ _) | (show wpAny _ _ (call (Value.ref 117) _) _ _ _) | (show wpAny _ _ (call (Value.ref 77) _) _ _ _) | (show wpAny _ _ (call (Value.ref 124) _) _ _ _) | (show wpAny _ _ (call (Value.ref 91) _) _ _ _)); refine Halt.out ?_))))

local macro_rules | `(tactic| walk_at "execs cons") => `(tactic| ((with_reducible show wpAny _ _ (execs (Stmt.For _ (Expr.Name _ _) _ _ _ :: _) _) _ _ _); refine Halt.out ?_))
theorem sets_ff {h₀ h : Heap} {L : Addr} {m : Str → Option Value} {b : Bool} (e : b = false) (F : Fr h₀ L h (fun y => if y = Str.ofString "sets_it" then some (Value.bool b) else m y)) : Fr h₀ L h (fun y => if y = Str.ofString "sets_it" then some (Value.bool false) else m y) := e ▸ F
theorem drop_mid {h₀ h : Heap} {L : Addr} {x d p q g c : Addr × Obj} {tl : List (Addr × Obj)} (N : News h₀ L h (x :: d :: p :: q :: g :: c :: tl)) : News h₀ L h (d :: p :: q :: tl) := fun r hr => N r (by
  rcases List.mem_cons.mp hr with rfl | hr
  · exact .tail _ (.head _)
  · rcases List.mem_cons.mp hr with rfl | hr
    · exact .tail _ (.tail _ (.head _))
    · rcases List.mem_cons.mp hr with rfl | hr
      · exact .tail _ (.tail _ (.tail _ (.head _)))
      · exact .tail _ (.tail _ (.tail _ (.tail _ (.tail _ (.tail _ hr))))))
set_option maxRecDepth 100000 in
set_option maxHeartbeats 2000000 in
theorem law_rest {w : World} {mean : ExcName → Option Value} {mg mb : Str → Option Value} {h₀ : Heap} {L fa lg : Addr} {cdv : Value} {s : Shared} {m : Str → Option Value} {vs : List Value} {ns : List Int} {c : Nat} {og : Obj} {Q : Flow → Shared → Prop} {E : Value → Shared → Prop}
    (B : Below callerA h₀ [] h₀) (F : Fr h₀ L s.heap m) (X : (Mine.hd.heap_39 w.params).In h₀) (N : News h₀ L s.heap [(lg, listOf vs.toArray c), (L + 1, og)]) (T : Top Mine.hd.view_39 (looseW Mine.hd.view_39 []) mean mg mb h₀)
    (hlt : @LT.lt Nat _ (L + 1) lg) (hog : og.data = .cell (some (.ref lg))) (hI : IntsAre vs ns) (hlen : ns.length = 14) (hg : ∀ g ∈ ns, 0 ≤ g ∧ g < 1824)
    (hE : PassesOwn (model Challenge.rw_pq0738_01.row.prog w) (callerA.deeper (envOfC (Str.ofString "law") lawScope L fa cdv)) (envOfC (Str.ofString "law") lawScope L fa cdv) E)
    (hret : ∀ h' tk' m', Fr h₀ L h' m' → Q (.ret (.bool true)) { s with heap := h', toks := tk' }) :
    wpAny (model Challenge.rw_pq0738_01.row.prog w) (callerA.deeper (envOfC (Str.ofString "law") lawScope L fa cdv)) (execs (lawBody.drop 1) (envOfC (Str.ofString "law") lawScope L fa cdv)) Q E s := by
  k_with_none
  have hE0 := hE
  dsimp only [lawBody, lawScope, PySem.Challenge.pw_pq0738_01, List.getLast?, List.getLast, List.drop] at hE ⊢
  k_steps
  unfold Halt
  rename IsRange _ _ _ _ _ _ _ _ => hr'
  rename Fr _ _ _ _ => FF
  rename News _ _ _ _ => NN
  have hb := fm_b (x := ns.getD (Int.toNat 4) 0) (by decide : (0 : Int) < 4)
  k_dflt (refine' srcU_rows ?hh FF NN hr' hb.1 hb.2 ?stp ?fin)
  (case hh => rfl)
  (case stp =>
    clear FF NN hr'
    intro i t ys tl I oI C oC D m₂ h tk E' hi hC hx F N off ne
    have hi4 : (i : Int) < 4 := Int.lt_trans hi hb.2
    simp only [List.cons_append, List.nil_append] at N
    k_steps
    unfold Halt
    rename News _ _ _ _ => NN
    rename Fr _ _ _ _ => FF
    rename _ ∧ _ => l10
    exact row_compEnd FF NN off (ktn_ltOf l10) (RowIn.mk (.head _)) ⟨by assumption, by assumption, by assumption⟩)
  (case fin =>
    clear FF NN hr'
    intro g ys tl rs hrs hlrs hmid
    unfold LCg.FinA
    intro D h tk F N off
    have N2 := news_flip1 N
    clear N
    simp only [List.cons_append, List.nil_append] at N2
    have hl4 : rs.length < 4 := by have := hb.2; omega
    k_steps
    all_goals (
      unfold Halt
      rename News _ _ _ _ => NN
      rename Fr _ _ _ _ => FF
      exact law_mid B X T (sets_ff (by first | assumption | exact beq_eq_false_iff_ne.mpr (by omega)) FF) (drop_mid NN) hrs hl4 hmid (by assumption) (by assumption) (by assumption) (by assumption) (by assumption) (by assumption) (by assumption) (by assumption) hE0 (fun h' tk' m' F' => hret h' tk' m' F')))
end Mine

namespace Mine
open PyProof.V PySem.Calls
local macro_rules | `(tactic| walk_at "eval Call") => `(tactic| (k_here; k_dflt (refine Call_ ?_)))
local macro_rules | `(tactic| walk_at "execs cons") => `(tactic| ((with_reducible show wpAny _ _ (execs (Stmt.Assign [Expr.Name (Str.ofString "first") _] _ _ :: _) _) _ _ _); refine Halt.out ?_))
set_option maxRecDepth 100000 in
set_option maxHeartbeats 8000000 in
theorem law_holds : PySem.Challenge.rw_pq0738_01.Holds := Mine.hd (by
  k_with_none
  (k_with "pyIter ref" => k_state (fun pre grit => grit.length = pre.length ∧ ∀ g ∈ grit, 0 ≤ g ∧ g < 1824) "grit")
  (k_with "exec While Compare cons nil" => k_while (fun _ sb grit => grit.length ≤ 14 ∧ 0 ≤ sb ∧ sb < 1824 ∧ ∀ g ∈ grit, 0 ≤ g ∧ g < 1824) (fun _ sb grit => 14 - grit.length) "shake_by" "grit")
  (k_with "state" => first
    | exact grit_start
    | exact grit_turn (by assumption) (by assumption)
    | exact grit_while (by assumption) (by assumption)
    | exact grit_more (by assumption) (by assumption))
  (k_with "measure" => exact grit_measure (by assumption))
  k_go0
  (all_goals try k_fold)
  k_steps
  all_goals (try k_data)
  unfold Halt
  rename News _ _ _ _ => NN
  rename Fr _ _ _ _ => FF
  rename IntsAre _ _ => hI9
  refine' law_rest ?B FF ?X (fun p hp => NN p (.tail _ hp)) ?T ?lt ?og hI9 ?len ?g ?E ?ret
  (case B => k_asm)
  (case X => k_asm)
  (case T => k_asm)
  (case lt => first | assumption | omega)
  (case og => assumption)
  (case len => omega)
  (case g => assumption)
  (case E => passes_own)
  (case ret =>
    intro h' tk' m' F'
    k_steps))
end Mine

set_option maxRecDepth 100000 in
set_option maxHeartbeats 8000000 in
theorem PySem.Challenge.cw_pq0738_01_holds : PySem.Challenge.rw_pq0738_01.Holds := by
  exact Mine.law_holds
