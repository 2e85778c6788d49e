import PyProof.Rows.All
import Wide.All
import OpenK.AllK
import Wide.FinOn
import PySem.Challenge.RW_no0066_01
set_option Elab.async false
namespace Mine
def Stop (P : Prop) : Prop := P
theorem Stop.intro {P : Prop} (h : Stop P) : P := h
theorem Stop.elim {P : Prop} (h : P) : Stop P := h
structure Ph (n : Nat) : Prop where
end Mine
section
open PySem PySem.W PyProof.Rows
namespace Mine
set_option maxRecDepth 100000 in
set_option maxHeartbeats 8000000 in
open_top hd for PySem.Challenge.rw_no0066_01
end Mine
end
section
open PySem PySem.W PySem.Calls PyProof.Rows
namespace Mine
theorem fill : (fun (_ : OpenLaw) (_ : Params → Frag) => True) PySem.Challenge.rw_no0066_01 Mine.hd.heap_39 := by
  k_fill
  trivial
theorem fmod_lo (a : Int) {b : Int} (h : 0 < b) : 0 ≤ a.fmod b := by
  rw [Int.fmod_eq_emod_of_nonneg a (by omega)]; exact Int.emod_nonneg a (by omega)
theorem fmod_hi (a : Int) {b : Int} (h : 0 < b) : a.fmod b < b := by
  rw [Int.fmod_eq_emod_of_nonneg a (by omega)]; exact Int.emod_lt_of_pos a h
set_option maxRecDepth 100000 in
set_option maxHeartbeats 8000000 in
theorem take_ok {prog : Program} {w : World} {loose : List Str} {mean : ExcName → Option Value} {mg mb : Str → Option Value} {dp un : Nat} {gd : Option (List Code)} {cn : Str} {cs : Scope} {a : Addr} {ccd : Value} {cl : List (Str × Addr)} {outer : List Env} {A₀ : Around} {base h₀ : Heap} {L : Addr} {m : Str → Option Value} {s : Shared} {Q E : Value → Shared → Prop}
    {bx b : Addr} {xs : List Value} {ns : List Int} {st wide : Int} {t tw : Tok} {n k : Nat} {rest : List (Addr × Obj)}
    (B : Below A₀ base outer h₀) (F : Fr h₀ L s.heap m) (X : (Mine.hd.heap_39 w.params).In h₀)
    (N : News h₀ L s.heap ((bx, listOf #[.ref b, .int st t] n) :: (b, listOf xs.toArray k) :: rest))
    (T : Top Mine.hd.view_39 loose mean mg mb h₀) (hk : cs.kind = .function) (hints : IntsAre xs ns) (hlen : ns.length ≤ 24)
    (h0 : 0 ≤ st) (h1 : st < 2147483647) (hw : 0 < wide) (hw2 : wide ≤ 1000000000) (hd : dp + 1 < recursionLimit) (_hu : un + 8 < cLine)
    (hne : bx ≠ b) (off : ∀ p ∈ rest, p.1 ≠ bx ∧ p.1 ≠ b)
    (hret : ∀ (r : Int) (t : Tok) (h' : Heap) (tk' : Nat) (xs' : List Value) (ns' : List Int) (st' : Int) (t' : Tok) (n' k' : Nat), 0 ≤ r → r < wide → IntsAre xs' ns' → ns'.length ≤ 24 → 0 ≤ st' → st' < 2147483647 →
      Fr h₀ L h' m → News h₀ L h' ((bx, listOf #[.ref b, .int st' t'] n') :: (b, listOf xs'.toArray k') :: rest) → Q (.int r t) { s with heap := h', toks := tk' }) :
    wpAny (model prog w) (ktrTop dp un gd cn cs L a ccd cl outer) (call (.ref 135) [.ref bx, .int wide tw]) Q E s := by
  refine wpAny_call ?_
  w_top off
  k_dflt cell_enter
  k_steps
  · cases hints with
    | nil => exact absurd ‹_› (by simp)
    | cons v tv hv =>
      refine kl_popAt (its := _) (p := []) (k := 0) (by assumption) (by assumption) rfl (by simp [seqIndex?]) rfl (Upd.tail hne (Upd.head fun p hp => (off p hp).2)) (Nat.le_trans (by show _ ≤ 25; simp; have := hv.length; simp at hlen; omega) (by decide)) ?_
      intro h' F' N'
      k_steps
      exact hret _ _ _ _ _ _ _ _ _ _ (fmod_lo _ hw) (fmod_hi _ hw) hv (by simp at hlen; omega) h0 h1 (by assumption) (by assumption)
  · refine ki_set (by assumption) (by assumption) (by decide) (by decide) rfl (Upd.head (List.forall_mem_cons.mpr ⟨Ne.symm hne, fun p hp => (off p hp).1⟩)) ?_
    intro h' F' N'
    k_steps
    exact hret _ _ _ _ _ _ _ _ _ _ (fmod_lo _ hw) (fmod_hi _ hw) hints hlen (fmod_lo _ (by decide)) (fmod_hi _ (by decide)) (by assumption) (by assumption)
end Mine
end
section
open PySem PySem.W PySem.Calls PyProof.Rows
namespace Mine
def P0 : Params := { strHash := fun _ => 0, shareClass := fun _ => 0, mergeTok := fun t => t, idOf := fun _ => 0, idOfShared := fun _ _ => 0, followText := fun _ => false, idOfImm := fun _ => 0 }
def tupItems : Option Obj → List Value
  | some ⟨_, _, .seq its _, _⟩ => its.toList
  | _ => []
def byOf : List Value → Nat → Array UInt8
  | .bytes a _ :: _, 0 => a
  | _ :: r, n + 1 => byOf r n
  | _, _ => #[]
def tkOf : List Value → Nat → Tok
  | .bytes _ t :: _, 0 => t
  | _ :: r, n + 1 => tkOf r n
  | _, _ => 0
/-- what the table's tuples hold: a family of names and values, one a row -/
structure Tab (P : Params) (nm vl : Nat → Array UInt8) (tkn tkv : Nat → Tok) : Prop where
  row : ∀ i, i < 99 → (Mine.hd.heap_39 P).lookup (15 + i) = some { cls := .type "tuple", data := .seq #[.bytes (nm i) (tkn i), .bytes (vl i) (tkv i)] }
noncomputable def rowIt (i : Nat) : List Value := tupItems ((Mine.hd.heap_39 P0).lookup (15 + i))
noncomputable def nmT (i : Nat) : Array UInt8 := byOf (rowIt i) 0
noncomputable def vlT (i : Nat) : Array UInt8 := byOf (rowIt i) 1
noncomputable def tknT (i : Nat) : Tok := tkOf (rowIt i) 0
noncomputable def tkvT (i : Nat) : Tok := tkOf (rowIt i) 1
set_option maxRecDepth 100000 in
theorem rows_all (P : Params) : (List.range 99).map (fun i => (Mine.hd.heap_39 P).lookup (15 + i)) = (List.range 99).map (fun i => some { cls := .type "tuple", data := .seq #[.bytes (nmT i) (tknT i), .bytes (vlT i) (tkvT i)] }) := by kernel_rfl
theorem tab_is (P : Params) : Tab P nmT vlT tknT tkvT := ⟨fun i h => (List.map_inj_left.mp (rows_all P)) i (List.mem_range.mpr h)⟩
theorem K_rows (P : Params) : (Mine.hd.heap_39 P).lookup 114 = some { cls := .type "list", data := .seq ((List.range 99).map fun i => Value.ref (15 + i)).toArray } := by kernel_rfl

section
variable (nm vl : Nat → Array UInt8)
def fxU (n : List UInt8) (k : Nat) : Option Nat := (List.range k).find? fun j => (nm j).toList == n
def ixU (n v : List UInt8) (k : Nat) : Option Nat := (List.range k).find? fun j => (nm j).toList == n && (vl j).toList == v
end
def ov : Option Nat → Tok → Value
  | none, _ => .none
  | some i, t => .int i t
section
variable {nm vl : Nat → Array UInt8}
theorem fxU_zero (n) : fxU nm n 0 = none := rfl
theorem ixU_zero (n v) : ixU nm vl n v 0 = none := rfl
theorem fxU_succ (n k) : fxU nm n (k + 1) = (fxU nm n k).or (if (nm k).toList == n then some k else none) := by
  unfold fxU
  rw [List.range_succ, List.find?_append]
  congr 1
  simp only [List.find?_cons, List.find?_nil]
  cases ((nm k).toList == n) <;> rfl
theorem ixU_succ (n v k) : ixU nm vl n v (k + 1) = (ixU nm vl n v k).or (if (nm k).toList == n && (vl k).toList == v then some k else none) := by
  unfold ixU
  rw [List.range_succ, List.find?_append]
  congr 1
  simp only [List.find?_cons, List.find?_nil]
  cases ((nm k).toList == n && (vl k).toList == v) <;> rfl
theorem fxU_mono {n : List UInt8} {k : Nat} {j : Nat} (h : fxU nm n k = some j) : ∀ m, k ≤ m → fxU nm n m = some j := by
  intro m hm
  induction m with
  | zero => have : k = 0 := by omega
            subst this; exact h
  | succ m ih =>
    by_cases e : k = m + 1
    · subst e; exact h
    · rw [fxU_succ, ih (by omega)]; rfl
theorem ixU_mono {n v : List UInt8} {k : Nat} {j : Nat} (h : ixU nm vl n v k = some j) : ∀ m, k ≤ m → ixU nm vl n v m = some j := by
  intro m hm
  induction m with
  | zero => have : k = 0 := by omega
            subst this; exact h
  | succ m ih =>
    by_cases e : k = m + 1
    · subst e; exact h
    · rw [ixU_succ, ih (by omega)]; rfl
end
section
variable {w : World} {A : Around} {E : Value → Shared → Prop} {s : Shared} {prog : Program} {h₀ : Heap} {L : Addr} {m : Str → Option Value} {nm vl : Nat → Array UInt8} {tkn tkv : Nat → Tok}
theorem row_sub0 {value slice : PySem.Expr} {u : Tok} {i : Nat} {Q : Value → Shared → Prop} (R : Tab w.params nm vl tkn tkv) (F : Fr h₀ L s.heap m) (X : (Mine.hd.heap_39 w.params).In h₀) (hi : i < 99) (h : Q (.bytes (nm i) (tkn i)) s)
    (hs : subscripted slice false (.ref (15 + i)) (.int 0 u) = operate [.ref (15 + i), .int 0 u] (getItem (.ref (15 + i)) (.int 0 u)) := by with_unfolding_all rfl) :
    wpAny (model prog w) A (subscriptTail value slice (.ref (15 + i)) (.int 0 u)) Q E s :=
  topTup_K (l := [.bytes (nm i) (tkn i), .bytes (vl i) (tkv i)]) (j := 0) F X (R.row i hi) (by decide) (by decide) rfl rfl h hs
theorem row_sub1 {value slice : PySem.Expr} {u : Tok} {i : Nat} {Q : Value → Shared → Prop} (R : Tab w.params nm vl tkn tkv) (F : Fr h₀ L s.heap m) (X : (Mine.hd.heap_39 w.params).In h₀) (hi : i < 99) (h : Q (.bytes (vl i) (tkv i)) s)
    (hs : subscripted slice false (.ref (15 + i)) (.int 1 u) = operate [.ref (15 + i), .int 1 u] (getItem (.ref (15 + i)) (.int 1 u)) := by with_unfolding_all rfl) :
    wpAny (model prog w) A (subscriptTail value slice (.ref (15 + i)) (.int 1 u)) Q E s :=
  topTup_K (l := [.bytes (nm i) (tkn i), .bytes (vl i) (tkv i)]) (j := 1) F X (R.row i hi) (by decide) (by decide) rfl rfl h hs
theorem rows_list {h : Heap} (X : (Mine.hd.heap_39 w.params).In h) : h.IsList 114 ((List.range 99).map fun i => Value.ref (15 + i)).toArray := ⟨_, X _ _ (K_rows w.params), rfl, 0, rfl⟩
end
end Mine
end
section
open PySem PySem.W PySem.Calls PyProof.Rows
namespace Mine
theorem enum_top {prog : Program} {w : World} {A : Around} {E : Value → Shared → Prop} {s : Shared} {env : Env} {h₀ : Heap} {l : Addr} {items : Array Value} {m : Str → Option Value} {news : List (Addr × Obj)} {xi xc : Str} {body : List Stmt} {Q : Flow → Shared → Prop}
    (hh : A.handled = none) (hl : h₀.IsList l items) (F : Fr h₀ env.locals s.heap m) (N : News h₀ env.locals s.heap news) (J : Nat → (Str → Option Value) → List (Addr × Obj) → Prop) (h0 : J 0 m news)
    (step : ∀ i x t m₁ news₁ h tk own, items[i]? = some x → J i m₁ news₁ → news₁.map (·.1) = news.map (·.1) → Fr h₀ env.locals h (fun y => if y = xc then some x else if y = xi then some (.int (i : Int) t) else m₁ y) → News h₀ env.locals h (own ++ news₁) →
      wpAny (model prog w) A (execs body env) (LoopStep3 h₀ env.locals own news₁ (J (i + 1)) { s with heap := h, toks := tk } (fun v s' => Q (.ret v) s') fun s' => Q .next s') E { s with heap := h, toks := tk })
    (done : ∀ h tk m' news', Fr h₀ env.locals h m' → News h₀ env.locals h news' → J items.size m' news' → Q .next { s with heap := h, toks := tk }) :
    wpAny (model prog w) A (call (.type "enumerate") [.ref l]) (fun xv s₁ => wpAny (model prog w) A (pyIter xv) (fun it s₂ => PairAt3 prog w A h₀ env xi xc body Q E it s₂) E s₁) E s := by
  have hl1 : s.heap.IsList l items := hl.at fun o e => F.keep l o e
  obtain ⟨ol, hol, _⟩ := id hl
  have hlt : l < h₀.objs.size := Heap.lt_size hol
  have hLs : env.locals < s.heap.objs.size := F.ns.lt
  have hls : l < s.heap.objs.size := Heap.lt_size (F.keep l ol hol)
  refine call_enumerate_list hl1 fun h' hE hI hsz hk => ?_
  refine wpAny_pyIter_enum hE ?_
  refine ⟨s.heap.objs.size + 1, [s.heap.objs.size + 1, s.heap.objs.size, l], [s.heap.objs.size + 1, s.heap.objs.size], items.size, _, _, _,
    fun i v0 v1 => (∃ t, v0 = .int (i : Int) t) ∧ items[i]? = some v1, m, news, J, rfl,
    WalksT.enumerate (prog := prog) (w := w) hh (s.heap.objs.size + 1) s.heap.objs.size l (Nat.succ_ne_self _) (ktu_ne 1 hls) (Nat.ne_of_lt hls) items, ?_, ?_, ?_, ?_, ⟨⟨.none, hE⟩, hI, hl1.at fun o e => hk l o e⟩, F.keeps hk, N.grown hk, h0, ?_, ?_⟩
  · rintro i vals ⟨t, x, hx, rfl⟩
    exact ⟨_, _, rfl, ⟨t, rfl⟩, hx⟩
  · intro hI'
    have hb' : env.locals = s.heap.objs.size + 1 ∨ env.locals = s.heap.objs.size ∨ env.locals = l := by simpa using hI'
    rcases hb' with e | e | e
    · exact ktu_ne 1 hLs e
    · exact Nat.ne_of_lt hLs e
    · have := F.above; exact absurd hlt (Nat.not_lt.mpr (e ▸ this))
  · intro b hb
    have hb' : b = s.heap.objs.size + 1 ∨ b = s.heap.objs.size := by simpa using hb
    rcases hb' with rfl | rfl
    · exact ktu_new F (Nat.le_add_right _ _)
    · exact ktu_new F (Nat.le_refl _)
  · intro p hp hI'
    have hb' : p.1 = s.heap.objs.size + 1 ∨ p.1 = s.heap.objs.size := by simpa using hI'
    have hlp := Heap.lt_size (N p hp).1
    rcases hb' with e | e
    · exact ktu_ne 1 hlp e
    · exact Nat.ne_of_lt hlp e
  · rintro i v0 v1 m₁ news₁ s₁ own ⟨h, tk, rfl⟩ hi ⟨⟨t, rfl⟩, hx⟩ hJ hm _ F₁ N₁
    exact step i v1 t m₁ news₁ h tk own hx hJ hm F₁ N₁
  · intro h tk m' news' F' N' _ hJ
    exact done h tk m' news' F' N' hJ
def MJ (nm vl : Nat → Array UInt8) (na va : Array UInt8) (tn tv : Tok) (news : List (Addr × Obj)) (i : Nat) (m₁ : Str → Option Value) (news₁ : List (Addr × Obj)) : Prop :=
  news₁ = news ∧ ixU nm vl na.toList va.toList i = none ∧ ∃ t u1 u2, m₁ = fun y => if y = (Str.ofString "row") then u2 else if y = (Str.ofString "index") then u1 else if y = (Str.ofString "by_name") then some (ov (fxU nm na.toList i) t) else
      if y = (Str.ofString "name") then some (.bytes na tn) else if y = (Str.ofString "value") then some (.bytes va tv) else none
theorem mj_keep {x y v : Value} {u1 u2 : Option Value} {o : Option Nat} {t : Tok} {r : Str → Option Value} (e : some v = some (ov o t)) :
    (fun z => if z = (Str.ofString "row") then some x else if z = (Str.ofString "index") then some y else if z = (Str.ofString "row") then u2 else if z = (Str.ofString "index") then u1 else if z = (Str.ofString "by_name") then some v else r z) =
      fun z => if z = (Str.ofString "row") then some x else if z = (Str.ofString "index") then some y else if z = (Str.ofString "by_name") then some (ov o t) else r z := by
  funext z
  rw [e]
  by_cases e1 : z = Str.ofString "row"
  · simp only [if_pos e1]
  by_cases e2 : z = Str.ofString "index"
  · simp only [if_neg e1, if_pos e2]
  simp only [if_neg e1, if_neg e2]
theorem mj_put {x y v v' : Value} {u1 u2 : Option Value} {o : Option Nat} {t : Tok} {r : Str → Option Value} (e : v = ov o t) :
    (fun z => if z = (Str.ofString "by_name") then some v else if z = (Str.ofString "row") then some x else if z = (Str.ofString "index") then some y else if z = (Str.ofString "row") then u2 else if z = (Str.ofString "index") then u1 else if z = (Str.ofString "by_name") then some v' else r z) =
      fun z => if z = (Str.ofString "row") then some x else if z = (Str.ofString "index") then some y else if z = (Str.ofString "by_name") then some (ov o t) else r z := by
  funext z
  rw [e]
  by_cases e1 : z = Str.ofString "row"
  · subst e1; rfl
  by_cases e2 : z = Str.ofString "index"
  · subst e2; rfl
  simp only [if_neg e1, if_neg e2]
  by_cases e3 : z = Str.ofString "by_name"
  · simp only [if_pos e3]
  simp only [if_neg e3]
local macro_rules | `(tactic| walk_at "subscriptTail") => `(tactic| (k_here; (with_reducible show wpAny _ _ (subscriptTail _ _ (Value.ref (_ + _)) (Value.int _ _)) _ _ _); first | refine row_sub0 (i := _) (by assumption) (by k_asm) (by k_asm) (by assumption) ?_ | refine row_sub1 (i := _) (by assumption) (by k_asm) (by k_asm) (by assumption) ?_))
set_option maxRecDepth 100000 in
set_option maxHeartbeats 1000000 in
theorem match_ok {prog : Program} {w : World} {loose : List Str} {mean : ExcName → Option Value} {mg mb : Str → Option Value} {dp un : Nat} {gd : Option (List Code)} {cn : Str} {cs : Scope} {a : Addr} {ccd : Value} {cl : List (Str × Addr)} {outer : List Env} {A₀ : Around} {base h₀ : Heap} {L : Addr} {m : Str → Option Value} {s : Shared} {Q E : Value → Shared → Prop}
    {nm vl : Nat → Array UInt8} {tkn tkv : Nat → Tok} (R : Tab w.params nm vl tkn tkv) {na va : Array UInt8} {tn tv : Tok} {news : List (Addr × Obj)}
    (B : Below A₀ base outer h₀) (F : Fr h₀ L s.heap m) (X : (Mine.hd.heap_39 w.params).In h₀)
    (N : News h₀ L s.heap news)
    (T : Top Mine.hd.view_39 loose mean mg mb h₀) (hk : cs.kind = .function) (hd : dp + 1 < recursionLimit) (_hu : un + 8 < cLine)
    (hret : ∀ (q : Addr) (t1 t2 : Tok) (h' : Heap) (tk' : Nat), Fr h₀ L h' m → News h₀ L h' ((q, { cls := .type "tuple", data := .seq #[ov (ixU nm vl na.toList va.toList 99) t1, ov (fxU nm na.toList 99) t2] }) :: news) → (∀ p ∈ news, p.1 < q) → Q (.ref q) { s with heap := h', toks := tk' }) :
    wpAny (model prog w) (ktrTop dp un gd cn cs L a ccd cl outer) (call (.ref 128) [.bytes na tn, .bytes va tv]) Q E s := by
  refine wpAny_call ?_
  w_top off
  k_dflt cell_enter
  k_steps
  rename Fr _ _ _ _ => F1
  rename News _ _ _ _ => N1
  rename Frag.In _ _ => X1
  refine enum_top (h₀ := _) rfl (rows_list X1) F1 N1 (MJ nm vl na va tn tv news) ⟨rfl, rfl, 0, none, none, ?_⟩ ?_ ?_
  · funext y
    by_cases e1 : y = Str.ofString "row"
    · subst e1; rfl
    by_cases e2 : y = Str.ofString "index"
    · subst e2; rfl
    by_cases e3 : y = Str.ofString "by_name"
    · subst e3; rfl
    by_cases e4 : y = Str.ofString "name"
    · subst e4; rfl
    by_cases e5 : y = Str.ofString "value"
    · subst e5; rfl
    simp only [if_neg e1, if_neg e2, if_neg e3, if_neg e4, if_neg e5]
    show List.lookup y [(Str.ofString "value", Value.bytes va tv), (Str.ofString "name", Value.bytes na tn)] = none
    simp only [List.lookup, beq_eq_false_iff_ne.mpr e5, beq_eq_false_iff_ne.mpr e4]
  · rintro i x t m₁ news₁ h tk own hx ⟨rfl, hno, t', u1, u2, rfl⟩ _ F2 N2
    clear F1 N1
    have hi : i < 99 := by
      have := (Array.getElem?_eq_some_iff.mp hx).1
      simpa using this
    have hx' : x = .ref (15 + i) := by simpa [hi] using hx.symm
    subst hx'
    clear hx
    cases ho : fxU nm na.toList i with
    | none =>
      simp only [ho, ov] at F2
      k_steps
      · rename ((nm i).toList == _) = true => en
        rename ((vl i).toList == _) = true => ev
        have e1 : ixU nm vl na.toList va.toList 99 = some i := ixU_mono (k := i + 1) (by rw [ixU_succ, hno, en, ev]; rfl) 99 (by omega)
        have e2 : fxU nm na.toList 99 = some i := fxU_mono (k := i + 1) (by rw [fxU_succ, ho, en]; rfl) 99 (by omega)
        simp only [e1, e2, ov] at hret
        rename News h₀ L _ _ => kN
        rename (∀ p ∈ _, _ < _) => kl
        exact hret _ _ _ _ _ (by assumption) (cb_drop kN (by intro p hp; rcases List.mem_cons.mp hp with rfl | hp; exact .head _; exact .tail _ (List.mem_append_right _ hp))) (fun p hp => kl p (List.mem_append_right _ hp))
      · rename ((nm i).toList == _) = true => en
        rename ((vl i).toList == _) = false => ev
        exact ⟨rfl, by rw [ixU_succ, hno, en, ev]; rfl, t, some (.int (i : Int) t), some (.ref (15 + i)), mj_put (by rw [fxU_succ, ho, en]; rfl)⟩
      · rename ((nm i).toList == _) = false => en
        exact ⟨rfl, by rw [ixU_succ, hno, en]; rfl, t, some (.int (i : Int) t), some (.ref (15 + i)), mj_keep (by rw [fxU_succ, ho, en]; rfl)⟩
    | some j =>
      simp only [ho, ov] at F2
      k_steps
      · rename ((nm i).toList == _) = true => en
        rename ((vl i).toList == _) = true => ev
        have e1 : ixU nm vl na.toList va.toList 99 = some i := ixU_mono (k := i + 1) (by rw [ixU_succ, hno, en, ev]; rfl) 99 (by omega)
        have e2 : fxU nm na.toList 99 = some j := fxU_mono (k := i + 1) (by rw [fxU_succ, ho]; rfl) 99 (by omega)
        simp only [e1, e2, ov] at hret
        rename News h₀ L _ _ => kN
        rename (∀ p ∈ _, _ < _) => kl
        exact hret _ _ _ _ _ (by assumption) (cb_drop kN (by intro p hp; rcases List.mem_cons.mp hp with rfl | hp; exact .head _; exact .tail _ (List.mem_append_right _ hp))) (fun p hp => kl p (List.mem_append_right _ hp))
      · rename ((nm i).toList == _) = true => en
        rename ((vl i).toList == _) = false => ev
        exact ⟨rfl, by rw [ixU_succ, hno, en, ev]; rfl, t', some (.int (i : Int) t), some (.ref (15 + i)), mj_keep (by rw [fxU_succ, ho]; rfl)⟩
      · rename ((nm i).toList == _) = false => en
        exact ⟨rfl, by rw [ixU_succ, hno, en]; rfl, t', some (.int (i : Int) t), some (.ref (15 + i)), mj_keep (by rw [fxU_succ, ho]; rfl)⟩
  · rintro h tk m' news' F2 N2 ⟨rfl, hno, t', u1, u2, rfl⟩
    clear F1 N1
    simp only [List.size_toArray, List.length_map, List.length_range] at F2 hno
    cases ho : fxU nm na.toList 99 with
    | none =>
      simp only [ho, ov] at F2
      k_steps
      simp only [hno, ho, ov] at hret
      exact hret _ 0 0 _ _ (by assumption) (by assumption) (by assumption)
    | some j =>
      simp only [ho, ov] at F2
      k_steps
      simp only [hno, ho, ov] at hret
      exact hret _ 0 _ _ _ (by assumption) (by assumption) (by assumption)
end Mine
end
section
open PySem PySem.W PySem.Calls PyProof.Rows PyProof.Rows.LCg
namespace Mine
def spotsTo (T : Nat → Bool) (k : Nat) : List Int := ((List.range k).filter T).map fun (j : Nat) => (j : Int)
theorem spotsTo_succ (T : Nat → Bool) (k : Nat) : spotsTo T (k + 1) = if T k = true then spotsTo T k ++ [(k : Int)] else spotsTo T k := by
  unfold spotsTo
  rw [List.range_succ, List.filter_append, List.map_append]
  cases h : T k <;> simp [h]
theorem spotsTo_len (T : Nat → Bool) (k : Nat) : (spotsTo T k).length ≤ k := by
  unfold spotsTo
  rw [List.length_map]
  exact Nat.le_trans (List.length_filter_le ..) (by simp)
theorem intsAre_snoc {ys : List Value} {ns : List Int} (h : IntsAre ys ns) (n : Int) (t : Tok) : IntsAre (ys ++ [.int n t]) (ns ++ [n]) := by
  induction h with
  | nil => exact .cons n t .nil
  | cons a u _ ih => exact .cons a u ih
section
variable {prog : Program} {w : World} {A : Around} {E : Value → Shared → Prop} {s : Shared} {h₀ : Heap} {L : Addr} {m : Str → Option Value} {env : Env}
theorem ec_block {iter c : PySem.Expr} {a b : Str} {pa pb tp pe : Pos} {kk : Nat} {scope : Scope} {cl : List (Str × Addr)} {pos : Pos} {s₂ : Shared} {e it l : Addr} {items : Array Value} {n : Nat} {T : Nat → Bool} {news : List (Addr × Obj)}
    {RR : Value → Addr → Result → Shared → Prop}
    (hh : A.handled = none) (hei : e ≠ it) (hsz : items.size ≤ sizeLine) (hE : IsEnum s₂.heap e it 0 .none) (hI : s₂.heap.IsListIter it l 0) (hm : (l, listOf items n) ∈ news)
    (hcell : ∀ y ∈ scope.names, y.2 ≠ .cell) (hkind : scope.kind = .function) (hxa : scope.names.lookup a = some .local) (hxb : scope.names.lookup b = some .local) (hab : ¬ a = b) (had : (a == ("__debug__" : Str)) = false)
    (F : Fr h₀ L s₂.heap m) (N : News h₀ L s₂.heap news) (hLe : L ≠ e) (hLi : L ≠ it) (he₀ : h₀.get? e = none) (hi₀ : h₀.get? it = none) (off : ∀ p ∈ news, p.1 ≠ e ∧ p.1 ≠ it)
    (test : ∀ (i : Nat) x t C oC m₂ h tk (E' : Value → Shared → Prop), items[i]? = some x → NsObj oC m₂ → m₂ a = some (.int (i : Int) t) → m₂ b = some x → Fr h₀ L h m → News h₀ L h ((C, oC) :: news) →
      wpAny (model prog w) A (isTrue c (compEnvC scope cl C env) (eval c (compEnvC scope cl C env))) (fun ok s' => ok = T i ∧ ∃ tk', s' = { s₂ with heap := h, toks := tk' }) E' { s₂ with heap := h, toks := tk })
    (hRR : ∀ D C h tk m' ys, Fr h₀ L h m → News h₀ L h ((D, lst ys) :: news) → (∀ p ∈ news, p.1 < D) → IntsAre ys (spotsTo T items.size) → h.Ns C m' → h₀.get? C = none → h₀.get? D = none → C ≠ L → D ≠ L → C ≠ D → (∀ p ∈ news, p.1 ≠ C) →
      RR (.ref D) C (.ok .next) { s₂ with heap := h, toks := tk }) :
    wpAny (model prog w) A (newList []) (fun acc s₃ => wpAny (model prog w) A (newFunctionEnv scope env.globals cl [] env.qual none .none (some env)) (fun cenv s₄ =>
      codeAny (model prog w) A (.compStart (.ListComp (.Name a pe) [⟨.Tuple [.Name a pa, .Name b pb] kk tp, iter, [c], 0⟩] scope pos) 0 (.ref e) acc { cenv with scope := relabel scope env }) (RR acc cenv.locals) s₄) E s₃) E s₂ := by
  refine wpAny_newObj_type (wpAny_newFunctionEnv hcell (by intro y hy; simp at hy) (fun h₁ hns₁ hsb₁ => ?_) hkind)
  dsimp only at hns₁ hsb₁ ⊢
  generalize hH2 : s₂.heap.push { cls := .type "list", dict := none, data := .seq ([] : List Value).toArray } = H2 at hns₁ hsb₁ ⊢
  have hC : H2.objs.size = s₂.heap.objs.size + 1 := by rw [← hH2, Heap.size_push]
  have hDC : s₂.heap.objs.size ≠ H2.objs.size := by rw [hC]; exact Nat.ne_of_lt (Nat.lt_succ_self _)
  have below : ∀ b, b < s₂.heap.objs.size → b ≠ H2.objs.size ∧ b ≠ s₂.heap.objs.size := fun b hb => ⟨by rw [hC]; exact Nat.ne_of_lt (Nat.lt_succ_of_lt hb), Nat.ne_of_lt hb⟩
  have helt : e < s₂.heap.objs.size := Heap.lt_size hE
  have hilt : it < s₂.heap.objs.size := by obtain ⟨_, x, _⟩ := hI; exact Heap.lt_size x
  have hl₂ := (N _ hm).1
  have hllt : l < s₂.heap.objs.size := Heap.lt_size hl₂
  have hle : l ≠ e := (off _ hm).1
  have hli : l ≠ it := (off _ hm).2
  have old : ∀ b o, s₂.heap.get? b = some o → h₁.get? b = some o := fun b o e => hsb₁.extBut b o (below b (Heap.lt_size e)).1 (Heap.get?_push_of_some _ (hH2 ▸ Heap.get?_push_of_some _ e))
  have hacc : h₁.get? s₂.heap.objs.size = some (lst []) := hsb₁.extBut _ _ hDC (Heap.get?_push_of_some _ (hH2 ▸ Heap.get?_push_size _ rfl))
  have hE₁ : IsEnum h₁ e it 0 .none := old _ _ hE
  have hI₁ : h₁.IsListIter it l 0 := hI.at fun o x => old _ _ x
  have fresh : ∀ a, s₂.heap.objs.size ≤ a → s₂.heap.get? a = none := fun a ha => by
    cases e : s₂.heap.get? a with
    | none => rfl
    | some o' => exact absurd (Heap.lt_size e) (Nat.not_lt.mpr ha)
  have fresh₀ : ∀ a, s₂.heap.objs.size ≤ a → h₀.get? a = none := fun a ha => by
    cases e : h₀.get? a with
    | none => rfl
    | some o' => have := F.keep a o' e; rw [fresh a ha] at this; cases this
  have hD₀ : h₀.get? s₂.heap.objs.size = none := fresh₀ _ (Nat.le_refl _)
  have hC₀ : h₀.get? H2.objs.size = none := fresh₀ _ (by rw [hC]; exact Nat.le_succ _)
  have hLlt : L < s₂.heap.objs.size := F.ns.lt
  have hDL : s₂.heap.objs.size ≠ L := Ne.symm (below L hLlt).2
  have hCL : H2.objs.size ≠ L := Ne.symm (below L hLlt).1
  have hCe : e ≠ H2.objs.size := (below e helt).1
  have hDe : e ≠ s₂.heap.objs.size := (below e helt).2
  have hCi : it ≠ H2.objs.size := (below it hilt).1
  have hDi : it ≠ s₂.heap.objs.size := (below it hilt).2
  have offC : ∀ p ∈ news, p.1 ≠ H2.objs.size := fun p hp => (below _ (Heap.lt_size (N p hp).1)).1
  have offD : ∀ p ∈ news, p.1 ≠ s₂.heap.objs.size := fun p hp => (below _ (Heap.lt_size (N p hp).1)).2
  have W := WalksT.enumerate (prog := prog) (w := w) hh e it l hei hle hli items
  have loop : ∀ s₃ : Shared, s₃ = { s₂ with heap := h₁, toks := s₂.toks + ([] : List (Str × Value)).length } →
      codeAny (model prog w) A (.compLoop (.ListComp (.Name a pe) [⟨.Tuple [.Name a pa, .Name b pb] kk tp, iter, [c], 0⟩] scope pos) 0 (.ref e) (.ref s₂.heap.objs.size) (compEnvC scope cl H2.objs.size env))
        (RR (.ref s₂.heap.objs.size) H2.objs.size) s₃ := by
    rintro s₃ rfl
    refine kct_loop
      (fun k s' => ∃ h' tk i ys m', s' = { s₂ with heap := h', toks := tk } ∧ i ≤ items.size ∧ k = items.size + 1 - i ∧ IntsAre ys (spotsTo T i) ∧ (∃ old, IsEnum h' e it i old) ∧ h'.IsListIter it l i ∧ Fr h₀ L h' m ∧ h'.Ns H2.objs.size m' ∧
        News h₀ L h' ((s₂.heap.objs.size, lst ys) :: news)) ?_ (items.size + 1)
      ⟨h₁, _, 0, [], _, rfl, Nat.zero_le _, rfl, .nil, ⟨_, hE₁⟩, hI₁, F.keeps old, hns₁, fun p hp => ?_⟩
    · rintro k s' ⟨h', tk, i, ys, m', rfl, hi, rfl, hys, hE', hI', F', hn', N'⟩
      have hl' : h'.IsList l items := PySem.IsL.isList (n := n) (N' _ (List.mem_cons_of_mem _ hm)).1
      by_cases hlt : i < items.size
      · refine W.item i _ _ _ hlt ⟨hE', hI', hl'⟩ fun T' vals h₂ tk₂ hP hTs hT hMd hk₂ => ?_
        obtain ⟨t, x, hx, rfl⟩ := hP
        refine W.go _ _ _ i T' _ _ _ hMd fun h₃ hst₃ hk₃ => ?_
        have hT₃ : h₃.IsTuple T' #[.int i t, x] := hT.at fun o e => hk₃ T' o (W.apart i T' _ hMd) e
        have up₃ : ∀ c o, c ≠ e → c ≠ it → h'.get? c = some o → h₃.get? c = some o := fun c o h1 h2 x => hk₃ c o (by simp [h1, h2]) (hk₂ c o (by simp [h1, h2]) x)
        refine kcp_assign (env := compEnvC scope cl H2.objs.size env) hh hT₃ (lookup_relabel_local hxa) (lookup_relabel_local hxb) (by simp [compEnvC, relabel, hkind]) (hn'.at' fun o x => up₃ _ o (Ne.symm hCe) (Ne.symm hCi) x) fun h₄ tk₄ hn₄ hs₄ => ?_
        have up : ∀ c o, c ≠ e → c ≠ it → c ≠ H2.objs.size → h'.get? c = some o → h₄.get? c = some o := fun c o h1 h2 h3 x => hs₄ c o h3 (up₃ c o h1 h2 x)
        obtain ⟨⟨old', hE₃⟩, hI₃, _⟩ := hst₃
        have hE₄ : IsEnum h₄ e it ((i + 1 : Nat) : Int) old' := hs₄ e _ hCe hE₃
        have hI₄ : h₄.IsListIter it l (i + 1) := hI₃.at fun o x => hs₄ it o hCi x
        obtain ⟨oC, heC, hoC⟩ := ns_obj hn₄
        have F₄ : Fr h₀ L h₄ m := ⟨F'.ns.at' fun o x => up _ o hLe hLi (Ne.symm hCL) x, fun c o x => up c o (fun q => by rw [q, he₀] at x; cases x) (fun q => by rw [q, hi₀] at x; cases x) (fun q => by rw [q, hC₀] at x; cases x) (F'.keep c o x), F'.above⟩
        have N₄ : News h₀ L h₄ ((s₂.heap.objs.size, lst ys) :: news) := fun q hq => by
          have z := N' q hq
          rcases List.mem_cons.mp hq with rfl | hq
          · exact ⟨up _ _ (Ne.symm hDe) (Ne.symm hDi) hDC z.1, z.2⟩
          · exact ⟨up _ _ (off q hq).1 (off q hq).2 (offC q hq) z.1, z.2⟩
        have N₄C : News h₀ L h₄ ((H2.objs.size, oC) :: news) := fun q hq => by
          rcases List.mem_cons.mp hq with rfl | hq
          · exact ⟨heC, hCL, hC₀⟩
          · exact N₄ q (List.mem_cons_of_mem _ hq)
        refine wpAny_mono (test i x t H2.objs.size oC _ h₄ tk₄ _ hx hoC (by simp [hab]) (by simp) F₄ N₄C) (fun okb s₅ h₅ => ?_) fun _ _ x => x
        obtain ⟨rfl, tk₅, rfl⟩ := h₅
        by_cases hT' : T i = true
        · rw [if_pos hT']
          refine wpAny_Name (wpAny_loadName_local (by simp [compEnvC, relabel, hkind]) (lookup_relabel_local hxa) hn₄ (v := .int (i : Int) t) (by simp [hab]) ?_) had
          have zD := (N₄ _ List.mem_cons_self).1
          refine append_at (hsz := by show ys.toArray.size ≤ sizeLine; rw [List.size_toArray, hys.length]; exact Nat.le_trans (spotsTo_len T i) (Nat.le_trans hi hsz)) zD fun h₆ hs₆ hD₆ => ?_
          refine ⟨items.size + 1 - (i + 1), by omega, h₆, tk₅, i + 1, ys ++ [.int (i : Int) t], _, rfl, hlt, rfl, ?_, ⟨old', ?_⟩, ?_, F₄.change hs₆ hDL hD₀, (hoC.ns (hs₆.extBut _ _ (Ne.symm hDC) heC)), fun q hq => ?_⟩
          · rw [spotsTo_succ, if_pos hT']; exact intsAre_snoc hys _ _
          · exact hs₆.extBut _ _ hDe hE₄
          · exact hI₄.at fun o x => hs₆.extBut _ _ hDi x
          · rcases List.mem_cons.mp hq with rfl | hq
            · exact ⟨hD₆.trans (congrArg some (lst_snoc ys _)), hDL, hD₀⟩
            · have z := N₄ q (List.mem_cons_of_mem _ hq)
              exact ⟨hs₆.extBut _ _ (offD q hq) z.1, z.2⟩
        · rw [if_neg hT']
          refine ⟨items.size + 1 - (i + 1), by omega, h₄, tk₅, i + 1, ys, _, rfl, hlt, rfl, ?_, ⟨old', hE₄⟩, hI₄, F₄, hn₄, N₄⟩
          rw [spotsTo_succ, if_neg hT']; exact hys
      · have hin : i = items.size := Nat.le_antisymm hi (Nat.not_lt.mp hlt)
        subst hin
        refine W.done _ _ _ ⟨hE', hI', hl'⟩ fun h₂ tk₂ hk₂ => ?_
        have up : ∀ c o, c ≠ e → c ≠ it → h'.get? c = some o → h₂.get? c = some o := fun c o h1 h2 x => hk₂ c o (by simp [h1, h2]) x
        refine hRR _ _ h₂ tk₂ _ ys ⟨F'.ns.at' fun o x => up _ o hLe hLi x, fun c o x => up c o (fun q => by rw [q, he₀] at x; cases x) (fun q => by rw [q, hi₀] at x; cases x) (F'.keep c o x), F'.above⟩ (fun q hq => ?_) (fun p hp => Heap.lt_size (N p hp).1) hys (hn'.at' fun o x => up _ o (Ne.symm hCe) (Ne.symm hCi) x) hC₀ hD₀ hCL hDL (Ne.symm hDC) offC
        have z := N' q hq
        rcases List.mem_cons.mp hq with rfl | hq
        · exact ⟨up _ _ (Ne.symm hDe) (Ne.symm hDi) z.1, z.2⟩
        · exact ⟨up _ _ (off q hq).1 (off q hq).2 z.1, z.2⟩
    · rcases List.mem_cons.mp hp with rfl | hp
      · exact ⟨hacc, hDL, hD₀⟩
      · exact ⟨old _ _ (N p hp).1, (N p hp).2⟩
  exact codeAny_compStart_list (loop _ rfl) (wpAny_pyIter_enum hE₁ (loop _ rfl))
def EnumAt (h₀ : Heap) (L : Addr) (m : Str → Option Value) (l : Addr) (news : List (Addr × Obj)) (s : Shared) (xv : Value) (s₁ : Shared) : Prop :=
  ∃ e it h tk, xv = .ref e ∧ s₁ = { s with heap := h, toks := tk } ∧ e ≠ it ∧ IsEnum h e it 0 .none ∧ h.IsListIter it l 0 ∧ Fr h₀ L h m ∧ News h₀ L h news ∧ L ≠ e ∧ L ≠ it ∧ h₀.get? e = none ∧ h₀.get? it = none ∧ ∀ p ∈ news, p.1 ≠ e ∧ p.1 ≠ it
theorem call_enum_at {l : Addr} {items : Array Value} {n : Nat} {news : List (Addr × Obj)} {s' : Shared} (hs : ∃ h tk, s' = { s with heap := h, toks := tk }) (F : Fr h₀ L s'.heap m) (N : News h₀ L s'.heap news) (hm : (l, listOf items n) ∈ news) :
    wpAny (model prog w) A (call (.type "enumerate") [.ref l]) (EnumAt h₀ L m l news s) E s' := by
  obtain ⟨h, tk, rfl⟩ := hs
  refine call_enumerate_list (PySem.IsL.isList (n := n) (N _ hm).1) fun h' hE hI hsz hk => ?_
  refine ⟨h.objs.size + 1, h.objs.size, h', _, rfl, rfl, Nat.succ_ne_self _, hE, hI, F.keeps hk, N.grown hk, ktu_ne 1 F.ns.lt, Nat.ne_of_lt F.ns.lt, ktu_new F (Nat.le_add_right _ _), ktu_new F (Nat.le_refl _), fun p hp => ?_⟩
  have hlp := Heap.lt_size (N p hp).1
  exact ⟨ktu_ne 1 hlp, Nat.ne_of_lt hlp⟩
theorem Assign_spots {iter c : PySem.Expr} {a b y : Str} {pa pb tp pe py : Pos} {kk : Nat} {scope : Scope} {cl : List (Str × Addr)} {pos spos : Pos} {l : Addr} {items : Array Value} {n : Nat} {T : Nat → Bool} {news : List (Addr × Obj)} {Q : Flow → Shared → Prop}
    (_F : Fr h₀ L s.heap m) (_N : News h₀ L s.heap news) (hh : A.handled = none) (hLe : env.locals = L)
    (hsw : swapsWith (.ListComp (.Name a pe) [⟨.Tuple [.Name a pa, .Name b pb] kk tp, iter, [c], 0⟩] scope pos) (some (.Name y py)) spos.line env = pure true)
    (hclos : closureFor scope env = pure cl) (hcell : ∀ z ∈ scope.names, z.2 ≠ .cell) (hkind : scope.kind = .function)
    (hnames : ∀ z ∈ scope.names, z.2 = .local → scope.names.lookup z.1 = some .local) (hxa : scope.names.lookup a = some .local) (hxb : scope.names.lookup b = some .local) (hab : ¬ a = b) (had : (a == ("__debug__" : Str)) = false)
    (hy : env.kindOf y = some .local) (hp : (env.scope.kind == .class || (env.scope.kind == .module && env.locals != env.globals)) = false)
    (hm : (l, listOf items n) ∈ news) (hsz : items.size ≤ sizeLine)
    (src : wpAny (model prog w) A (eval iter env) (EnumAt h₀ L m l news s) E s)
    (test : ∀ (i : Nat) x t C oC m₂ h tk (E' : Value → Shared → Prop), items[i]? = some x → NsObj oC m₂ → m₂ a = some (.int (i : Int) t) → m₂ b = some x → Fr h₀ L h m → News h₀ L h ((C, oC) :: news) →
      wpAny (model prog w) A (isTrue c (compEnvC scope cl C env) (eval c (compEnvC scope cl C env))) (fun ok s' => ok = T i ∧ ∃ tk', s' = { s with heap := h, toks := tk' }) E' { s with heap := h, toks := tk })
    (done : ∀ D h tk ys, Fr h₀ L h (fun z => if z = y then some (.ref D) else m z) → News h₀ L h ((D, lst ys) :: news) → (∀ p ∈ news, p.1 < D) → IntsAre ys (spotsTo T items.size) → Q .next { s with heap := h, toks := tk })
    (hs : ∀ x, foldedSetIterable iter env x = pure x := by intro _; rfl) :
    wpAny (model prog w) A (exec (.Assign [.Name y py] (.ListComp (.Name a pe) [⟨.Tuple [.Name a pa, .Name b pb] kk tp, iter, [c], 0⟩] scope pos) spos) env) Q E s := by
  subst hLe
  rw [exec_Assign_Name_used _ _ _ _ hsw]
  refine wpAny_bind (wpAny_standAt (wpAny_bind ?_))
  show wpAny _ A (do let _ ← comprehension (.ListComp (.Name a pe) [⟨.Tuple [.Name a pa, .Name b pb] kk tp, iter, [c], 0⟩] scope pos) scope env _ (newList []) false (eval iter env) (some (assign (.Name y py) env))) _ _ s
  refine wpAny_bind (wpAny_mono (wpAny_comprehension_free (use := some (assign (.Name y py) env)) (Q := fun _ s' => Q .next s') rfl hs hclos hkind hnames
    (wpAny_mono src (fun xv s₁ h₁ => ?_) fun _ _ e => e)) (fun _ s' hq => wpAny_pure (wpAny_pure hq)) fun _ _ e => e)
  obtain ⟨e, it, h₁, tk₁, rfl, rfl, hei, hE, hI, F, N, hLe, hLi, he₀, hi₀, off⟩ := h₁
  refine wpAny_pyIter_enum hE ?_
  refine ec_block (T := T) hh hei hsz hE hI hm hcell hkind hxa hxb hab had F N hLe hLi he₀ hi₀ off (fun i x t C oC m₂ h tk E' => test i x t C oC m₂ h tk E') ?_
  intro D C h' tk m' ys F' N' hlt hys hn hC₀ hD₀ hCL hDL hCD offC
  show wpAny _ A (assign (.Name y py) env (.ref D)) _ _ _
  refine wpAny_assign_Name (wpAny_storeName_local hy F'.ns (fun h₂ hn₂ hs₂ => ?_) hp)
  have hL₀ : h₀.get? env.locals = none := Heap.get?_none_of_le F'.above
  have F₂ : Fr h₀ env.locals h₂ (fun z => if z = y then some (.ref D) else m z) := ⟨hn₂, fun b o e => hs₂.extBut b o (fun q => by rw [q, hL₀] at e; cases e) (F'.keep b o e), F'.above⟩
  refine ⟨m', hn.sameBut hs₂ hCL, fun h'' hs'' => done D h'' _ ys (F₂.change hs'' hCL hC₀) (fun p hp => ?_) hlt hys⟩
  have z : h₂.get? p.1 = some p.2 := hs₂.extBut _ _ (N' p hp).2.1 (N' p hp).1
  refine ⟨hs''.extBut _ _ ?_ z, (N' p hp).2⟩
  rcases List.mem_cons.mp hp with rfl | hp
  · exact Ne.symm hCD
  · exact offC p hp
theorem rest_ind {elt : PySem.Expr} {x : Str} {scope : Scope} {cl : List (Str × Addr)} {S : List (Addr × Obj) → Prop} {P : Nat → Value → Prop} {Fin : List Value → List (Addr × Obj) → Prop} {n : Nat} {news : List (Addr × Obj)} (V : Nat → Value)
    (step : ∀ (i : Nat) v I oI C oC D oD m₂ h tk (E' : Value → Shared → Prop), i < n → P i v → NsObj oC m₂ → m₂ x = some v → Fr h₀ L h m → News h₀ L h ((I, oI) :: (C, oC) :: (D, oD) :: news) → Off3 I C D news →
      wpAny (model prog w) A (eval elt (compEnvC scope cl C env)) (fun y s' => y = V i ∧ ∃ h' tk', s' = { s with heap := h', toks := tk' } ∧ Fr h₀ L h' m ∧ News h₀ L h' ((I, oI) :: (C, oC) :: (D, oD) :: news)) E' { s with heap := h, toks := tk })
    (hS : S news) (fin : Fin ((List.range n).map V) news) : CompRest prog w A h₀ L m env elt x scope cl s S P Fin n 0 [] news := by
  have main : ∀ k i ys, k + i = n → ys = (List.range i).map V → CompRest prog w A h₀ L m env elt x scope cl s S P Fin k i ys news := by
    intro k
    induction k with
    | zero =>
      intro i ys hi hys
      have e : i = n := by omega
      subst e
      exact CompRest.zero (by rw [hys]; exact fin)
    | succ k ih =>
      intro i ys hi hys
      refine CompRest.succ fun v I oI C oC D m₂ h tk E' hP hC hx F N off _ => ?_
      refine wpAny_mono (step i v I oI C oC D _ m₂ h tk E' (by omega) hP hC hx F N off) (fun y s' hy => ?_) fun _ _ e => e
      obtain ⟨rfl, h', tk', rfl, F', N'⟩ := hy
      exact ⟨h', tk', news, rfl, F', N', off, hS, ih (i + 1) _ (by omega) (by rw [hys, List.range_succ, List.map_append]; rfl)⟩
  exact main n 0 [] rfl rfl
end
end Mine
end
section
open PySem PySem.W PySem.Calls PyProof.Rows PyProof.Rows.LCg
namespace Mine
theorem rows_at {i : Int} (h0 : 0 ≤ i) (h1 : i < 99) : ((List.range 99).map fun i => Value.ref (15 + i))[i.toNat]? = some (.ref (15 + i.toNat)) := by
  have h : i.toNat < 99 := by omega
  rw [List.getElem?_map, List.getElem?_range h]
  rfl
theorem list_sub {prog : Program} {w : World} {A : Around} {E : Value → Shared → Prop} {s : Shared} {h₀ : Heap} {L : Addr} {m : Str → Option Value} {value slice : PySem.Expr} {u : Tok} {i : Int} {Q : Value → Shared → Prop} (F : Fr h₀ L s.heap m) (X : (Mine.hd.heap_39 w.params).In h₀) (h0 : 0 ≤ i) (h1 : i < 99) (h : Q (.ref (15 + i.toNat)) s)
    (hs : subscripted slice false (.ref 114) (.int i u) = operate [.ref 114, .int i u] (getItem (.ref 114) (.int i u)) := by with_unfolding_all rfl) :
    wpAny (model prog w) A (subscriptTail value slice (.ref 114) (.int i u)) Q E s :=
  topList_K (l := (List.range 99).map fun i => Value.ref (15 + i)) F X (K_rows w.params) h0 (by omega) (rows_at h0 h1) h hs
local macro_rules | `(tactic| walk_at "subscriptTail Name") => `(tactic| (k_here; (with_reducible show wpAny _ _ (subscriptTail _ _ (Value.ref 114) (Value.int _ _)) _ _ _); refine list_sub (by k_asm) (by k_asm) (by assumption) (by assumption) ?_))
local macro_rules | `(tactic| walk_at "subscriptTail Name") => `(tactic| (k_here; (with_reducible show wpAny _ _ (subscriptTail _ _ (Value.ref 114) (Value.int _ _)) _ _ _); refine list_sub (by k_asm) (by k_asm) (by assumption) (by assumption) ?_))
set_option maxRecDepth 100000 in
set_option maxHeartbeats 1000000 in
theorem row_in {prog : Program} {w : World} {loose : List Str} {mean : ExcName → Option Value} {mg mb : Str → Option Value} {dp un : Nat} {gd : Option (List Code)} {cn : Str} {cs : Scope} {a : Addr} {ccd : Value} {cl : List (Str × Addr)} {outer : List Env} {A₀ : Around} {base h₀ : Heap} {L : Addr} {m : Str → Option Value} {s : Shared} {Q E : Value → Shared → Prop}
    {i : Int} {tn : Tok} {news : List (Addr × Obj)}
    (B : Below A₀ base outer h₀) (F : Fr h₀ L s.heap m) (X : (Mine.hd.heap_39 w.params).In h₀)
    (N : News h₀ L s.heap news)
    (T : Top Mine.hd.view_39 loose mean mg mb h₀) (hk : cs.kind = .function) (hd : dp + 1 < recursionLimit) (_hu : un + 8 < cLine)
    (h0 : 0 ≤ i) (h1 : i < 99)
    (hret : ∀ (h' : Heap) (tk' : Nat), Fr h₀ L h' m → News h₀ L h' news → Q (.ref (15 + i.toNat)) { s with heap := h', toks := tk' }) :
    wpAny (model prog w) (ktrTop dp un gd cn cs L a ccd cl outer) (call (.ref 121) [.int i tn]) Q E s := by
  refine wpAny_call ?_
  w_top off
  k_dflt cell_enter
  k_steps
  exact hret _ _ (by assumption) (by assumption)
set_option maxRecDepth 100000 in
set_option maxHeartbeats 1000000 in
theorem row_out {prog : Program} {w : World} {loose : List Str} {mean : ExcName → Option Value} {mg mb : Str → Option Value} {dp un : Nat} {gd : Option (List Code)} {cn : Str} {cs : Scope} {a : Addr} {ccd : Value} {cl : List (Str × Addr)} {outer : List Env} {A₀ : Around} {base h₀ : Heap} {L : Addr} {m : Str → Option Value} {s : Shared} {Q E : Value → Shared → Prop}
    {i : Int} {tn : Tok} {news : List (Addr × Obj)}
    (B : Below A₀ base outer h₀) (F : Fr h₀ L s.heap m) (X : (Mine.hd.heap_39 w.params).In h₀)
    (N : News h₀ L s.heap news)
    (T : Top Mine.hd.view_39 loose mean mg mb h₀) (hk : cs.kind = .function) (hd : dp + 1 < recursionLimit) (_hu : un + 8 < cLine)
    (h0 : i < 0 ∨ 99 ≤ i)
    (hret : ∀ (h' : Heap) (tk' : Nat), Fr h₀ L h' m → News h₀ L h' news → Q .none { s with heap := h', toks := tk' }) :
    wpAny (model prog w) (ktrTop dp un gd cn cs L a ccd cl outer) (call (.ref 121) [.int i tn]) Q E s := by
  refine wpAny_call ?_
  w_top off
  k_dflt cell_enter
  k_steps
  all_goals exact hret _ _ (by assumption) (by assumption)
end Mine
end
section
open PySem PySem.W PySem.Calls PyProof.Rows PyProof.Rows.LCg
namespace Mine
open PySem.SeqAt in
theorem eqAt_bytes {A : Around} {s : Shared} (a : Array UInt8) (t : Tok) (b : Array UInt8) (u : Tok) : EqAt A s (.bytes a t) (.bytes b u) (a.toList == b.toList) := fun prog w E Q h => by
  unfold eqBool
  refine wpAny_holding ?_
  refine wpAny_ite_split (fun hab => ?_) (fun _ => ?_)
  · have e : a = b := by have := eq_of_beq hab; injection this
    subst e
    exact wpAny_bind (wpAny_rule (wpAny_pure (by simpa using h)))
  · exact wpAny_bind (show wpAny (model prog w) A (compareOp .Eq (.bytes a t) (.bytes b u)) _ E s from eq_bytes (wpAny_truthy_bool h))
open PySem.SeqAt in
theorem eqAt_ov {A : Around} {s : Shared} : ∀ (o p : Option Nat) (t u : Tok), EqAt A s (ov o t) (ov p u) (o == p)
  | none, none, _, _ => EqAt.same _
  | none, some j, _, u => EqAt.none_int j u
  | some i, none, t, _ => EqAt.int_none i t
  | some i, some j, t, u => by
    have h := EqAt.int_int (A := A) (s := s) (i : Int) t (j : Int) u
    have e : (some i == some j) = ((i : Int) == (j : Int)) := by
      rw [Bool.eq_iff_iff]; simp; omega
    rw [e]; exact h
section
variable {prog : Program} {w : World} {A : Around} {E : Value → Shared → Prop} {s : Shared}
open PySem.SeqAt in
theorem ne_pair {l b : Addr} {x1 x2 y1 y2 : Value} {e1 e2 : Bool} {Q : Value → Shared → Prop} (hl : s.heap.IsTuple l #[x1, x2]) (hb : s.heap.IsTuple b #[y1, y2]) (hu : A.units < cLine)
    (h1 : EqAt A.in1 s x1 y1 e1) (h2 : EqAt A.in1 s x2 y2 e2) (h : Q (.bool (!(e1 && e2))) s) : wpAny (model prog w) A (compareOp .NotEq (.ref l) (.ref b)) Q E s := by
  refine RcNeAt.tuples (e := fun j => if j = 0 then e1 else e2) hl hb hu ?_ prog w E Q ?_
  · intro j hj1 hj2
    match j, hj1, hj2 with
    | 0, _, _ => exact h1
    | 1, _, _ => exact h2
  · have e : (!((List.range (min (#[x1, x2] : Array Value).size (#[y1, y2] : Array Value).size)).all (fun j => if j = 0 then e1 else e2) && (#[x1, x2] : Array Value).size == (#[y1, y2] : Array Value).size)) = !(e1 && e2) := by
      simp [List.range, List.range.loop]
    rw [e]; exact h
open PySem.SeqAt in
theorem none_in {h₀ : Heap} {L : Addr} {m : Str → Option Value} {nm vl : Nat → Array UInt8} {tkn tkv : Nat → Tok} (R : Tab w.params nm vl tkn tkv) {l : Addr} {n : Nat} {news : List (Addr × Obj)} {Q : Value → Shared → Prop} (F : Fr h₀ L s.heap m) (X : (Mine.hd.heap_39 w.params).In h₀)
    (N : News h₀ L s.heap news) (hm : (l, listOf ((List.range 99).map fun i => Value.ref (15 + i)).toArray n) ∈ news) (hu : A.units + 8 < cLine)
    (h : Q (.bool false) s) : wpAny (model prog w) A (compareOp .In .none (.ref l)) Q E s := by
  refine in_listAt (fun _ => false) (PySem.IsL.isList (n := n) (N _ hm).1) (fun y hy => ?_) ?_
  · have hy' : y ∈ (List.range 99).map fun i => Value.ref (15 + i) := by simpa using hy
    obtain ⟨i, hi, rfl⟩ := List.mem_map.mp hy'
    have hi' : i < 99 := List.mem_range.mp hi
    have ho := (X.keeps F.keep) _ _ (R.row i hi')
    exact EqAt.tuple_none (items := #[.bytes (nm i) (tkn i), .bytes (vl i) (tkv i)]) ⟨_, ho, rfl, _, rfl⟩ (by show A.units + _ < cLine; first | omega | simp)
  · have e : (((List.range 99).map fun i => Value.ref (15 + i)).toArray.any fun _ => false) = false := by simp
    rw [e]; exact h
end
section
variable {prog : Program} {w : World} {A : Around} {E : Value → Shared → Prop} {s : Shared} {h₀ : Heap} {L : Addr} {m : Str → Option Value} {env : Env}
theorem tup_st {ax I : Addr} {ob : Obj} {its : Array Value} (hc : ob.cls = .type "tuple") (hd : ∃ n, ob.data = .seq its n) : ∀ i (h h' : Heap) (o : Obj) (nw : List (Addr × Obj)), (h.IsTupleIter I ax i ∧ h.IsTuple ax its) → h.get? I = some o → h'.get? I = some o → (∀ b o, h₀.get? b = some o → h'.get? b = some o) → News h₀ L h' nw → (ax, ob) ∈ nw → (h'.IsTupleIter I ax i ∧ h'.IsTuple ax its) :=
  fun i h h' o nw st e e' k N S => ⟨by obtain ⟨o', q, r⟩ := st.1; rw [e] at q; cases q; exact ⟨o, e', r⟩, ⟨ob, (N _ S).1, hc, hd⟩⟩
def TupSrc (prog : Program) (w : World) (A : Around) (h₀ : Heap) (L : Addr) (m : Str → Option Value) (env : Env) (elt : PySem.Expr) (x : Str) (scope : Scope) (cl : List (Str × Addr)) (Fin : Shared → List Value → List (Addr × Obj) → Prop) (xv : Value) (s₁ : Shared) : Prop :=
  ∃ ax ob its news, xv = .ref ax ∧ A.handled = none ∧ Fr h₀ L s₁.heap m ∧ News h₀ L s₁.heap news ∧ (ax, ob) ∈ news ∧ ob.cls = .type "tuple" ∧ (∃ n, ob.data = .seq its n) ∧ its.size ≤ sizeLine ∧
    ∀ s₂ : Shared, (∃ h, s₂ = { s₁ with heap := h }) → CompRest prog w A h₀ L m env elt x scope cl s₂ (fun nw => (ax, ob) ∈ nw) (fun i v => its[i]? = some v) (Fin s₂) its.size 0 [] news
theorem TupSrc.intro {elt : PySem.Expr} {x : Str} {scope : Scope} {cl : List (Str × Addr)} {Fin : Shared → List Value → List (Addr × Obj) → Prop} {s₁ : Shared} {ax : Addr} {its : Array Value} {n : Nat} {news : List (Addr × Obj)}
    (hh : A.handled = none) (F : Fr h₀ L s₁.heap m) (N : News h₀ L s₁.heap news) (hm : (ax, ({ cls := .type "tuple", data := .seq its n } : Obj)) ∈ news) (hsz : its.size ≤ sizeLine)
    (h : ∀ g : Heap, CompRest prog w A h₀ L m env elt x scope cl { s₁ with heap := g } (fun nw => (ax, ({ cls := .type "tuple", data := .seq its n } : Obj)) ∈ nw) (fun i v => its[i]? = some v) (Fin { s₁ with heap := g }) its.size 0 [] news) :
    TupSrc prog w A h₀ L m env elt x scope cl Fin (.ref ax) s₁ := ⟨ax, _, its, news, rfl, hh, F, N, hm, rfl, ⟨n, rfl⟩, hsz, fun _ ⟨g, e⟩ => e ▸ h g⟩
theorem ListComp_tup {elt iter : PySem.Expr} {x : Str} {px : Pos} {scope : Scope} {cl : List (Str × Addr)} {pos : Pos} {Q : Value → Shared → Prop} (_F₀ : Fr h₀ L s.heap m)
    (hclos : closureFor scope env = pure cl) (hcell : ∀ y ∈ scope.names, y.2 ≠ .cell) (hkind : scope.kind = .function)
    (hnames : ∀ y ∈ scope.names, y.2 = .local → scope.names.lookup y.1 = some .local) (hx : scope.names.lookup x = some .local)
    (h : wpAny (model prog w) A (eval iter env) (TupSrc prog w A h₀ L m env elt x scope cl (fun s₂ => FinE h₀ L m s₂ Q)) E s)
    (hs : ∀ x, foldedSetIterable iter env x = pure x := by intro _; rfl) :
    wpAny (model prog w) A (eval (.ListComp elt [⟨.Name x px, iter, [], 0⟩] scope pos) env) Q E s := by
  rw [eval_ListComp]
  refine wpAny_comprehension_free (use := none) rfl hs hclos hkind hnames (wpAny_mono h (fun xv s₁ h₁ => ?_) fun _ _ e => e)
  obtain ⟨ax, ob, its, news, rfl, hh, F, N, hm, hc, hd, hsz, R⟩ := h₁
  have hl : s₁.heap.IsTuple ax its := ⟨ob, (N _ hm).1, hc, hd⟩
  have hlt : ax < s₁.heap.objs.size := by obtain ⟨_, e, _⟩ := hl; exact Heap.lt_size e
  refine wpAny_pyIter_tuple hl ?_
  have up : ∀ b o, s₁.heap.get? b = some o → (s₁.heap.push { cls := .type "tuple_iterator", data := .fields #[.ref ax, .int 0 0] }).get? b = some o := fun b o e => Heap.get?_push_of_some _ e
  refine block_U (Walks.tuple hh s₁.heap.objs.size ax (Nat.ne_of_lt hlt) its) hsz (fun i h st => by obtain ⟨o, e, _⟩ := st.1; exact ⟨o, e⟩) (tup_st hc hd) hcell hkind hx ⟨⟨_, Heap.get?_push_size _ rfl, rfl, rfl⟩, hl.at fun o e => up _ o e⟩ (fun b hb => ?_)
    (F.keeps up) (N.grown up) (Nat.ne_of_lt F.ns.lt) (next_is_new F) (fun p hp => Nat.ne_of_lt (Heap.lt_size (N p hp).1)) hm (R _ ⟨_, rfl⟩) ?_
  · show b < (s₁.heap.push _).objs.size
    rw [Heap.size_push]
    rcases List.mem_cons.mp hb with rfl | hb
    · exact Nat.lt_succ_self _
    · rw [List.mem_singleton.mp hb]; exact Nat.lt_succ_of_lt hlt
  · intro D C h tk m' ys news' F' N' o1 hn hC₀ hD₀ hCL hDL hCD offC fin
    refine ⟨m', hn, fun h'' hs'' => fin D h'' tk (F'.change hs'' hCL hC₀) (fun p hp => ?_) o1⟩
    refine ⟨hs''.extBut _ _ ?_ (N' p hp).1, (N' p hp).2⟩
    rcases List.mem_cons.mp hp with rfl | hp
    · exact Ne.symm hCD
    · exact offC p hp
end
theorem news_swap3 {h₀ h : Heap} {L : Addr} {p q r : Addr × Obj} {l : List (Addr × Obj)} (N : News h₀ L h (p :: q :: r :: l)) : News h₀ L h (q :: r :: p :: l) := fun x hx => by
  rcases List.mem_cons.mp hx with rfl | hx
  · exact N _ (.tail _ (.head _))
  rcases List.mem_cons.mp hx with rfl | hx
  · exact N _ (.tail _ (.tail _ (.head _)))
  rcases List.mem_cons.mp hx with rfl | hx
  · exact N _ (.head _)
  · exact N _ (.tail _ (.tail _ (.tail _ hx)))
end Mine
end
section
open PySem PySem.W PySem.Calls PyProof.Rows PyProof.Rows.LCg
namespace Mine
theorem allLt_mem {d : Addr} : ∀ {l : List (Addr × Obj)}, AllLt d l → ∀ q ∈ l, q.1 < d
  | [], _, _, h => nomatch h
  | _ :: _, h, q, hq => by
    rcases List.mem_cons.mp hq with rfl | hq
    · exact h.1
    · exact allLt_mem h.2 q hq
def KnownRow (nm vl : Nat → Array UInt8) (tl : List (Addr × Obj)) (v : Value) : Prop :=
  ∃ (T : Addr) (i : Int) (a b : Array UInt8) (ti ta tb : Tok), v = .ref T ∧ (T, ({ cls := .type "tuple", data := .seq #[.int i ti, .bytes a ta, .bytes b tb] } : Obj)) ∈ tl ∧ 0 ≤ i ∧ i < 99 ∧ (nm i.toNat).toList = a.toList ∧ (vl i.toNat).toList = b.toList
def KnownAt (nm vl : Nat → Array UInt8) (tl : List (Addr × Obj)) (kl : Addr) : Prop :=
  ∃ (vs : List Value) (n : Nat), (kl, listOf vs.toArray n) ∈ tl ∧ ∀ v ∈ vs, KnownRow nm vl tl v
set_option maxRecDepth 100000 in
set_option maxHeartbeats 2000000 in
theorem known_ok {prog : Program} {w : World} {loose : List Str} {mean : ExcName → Option Value} {mg mb : Str → Option Value} {dp un : Nat} {gd : Option (List Code)} {cn : Str} {cs : Scope} {a : Addr} {ccd : Value} {cl : List (Str × Addr)} {outer : List Env} {A₀ : Around} {base h₀ : Heap} {L : Addr} {m : Str → Option Value} {s : Shared} {Q E : Value → Shared → Prop}
    {nm vl : Nat → Array UInt8} (hnm : nm = nmT) (hvl : vl = vlT) {news : List (Addr × Obj)}
    (B : Below A₀ base outer h₀) (F : Fr h₀ L s.heap m) (X : (Mine.hd.heap_39 w.params).In h₀)
    (N : News h₀ L s.heap news)
    (T : Top Mine.hd.view_39 loose mean mg mb h₀) (hk : cs.kind = .function) (hd : dp + 1 < recursionLimit) (_hu : un + 8 < cLine)
    (hret : ∀ (kl : Addr) (tl : List (Addr × Obj)) (h' : Heap) (tk' : Nat), Fr h₀ L h' m → News h₀ L h' (tl ++ news) → (∀ p ∈ tl, ∀ q ∈ news, q.1 < p.1) → KnownAt nm vl tl kl → Q (.ref kl) { s with heap := h', toks := tk' }) :
    wpAny (model prog w) (ktrTop dp un gd cn cs L a ccd cl outer) (call (.ref 149) []) Q E s := by
  refine wpAny_call ?_
  w_top off
  k_dflt cell_enter
  k_steps
  rename News h₀ L _ _ => kN
  refine hret _ [_, _, _, _, _, _, _, _, _, _, _, _, _] _ _ (by assumption) kN ?_ ⟨[_, _, _, _, _, _, _, _, _, _, _, _], 0, .head _, ?_⟩
  · repeat (refine List.forall_mem_cons.mpr ⟨fun q hq => ?_, ?_⟩; (first | exact (by assumption : ∀ p ∈ news, p.1 < _) q hq | (refine allLt_mem ?_ q hq; first | assumption | exact (And.right (by assumption)) | exact (And.right (And.right (by assumption))) | exact (And.right (And.right (And.right (by assumption)))) | exact (And.right (And.right (And.right (And.right (by assumption))))) | exact (And.right (And.right (And.right (And.right (And.right (by assumption)))))) | exact (And.right (And.right (And.right (And.right (And.right (And.right (by assumption))))))) | exact (And.right (And.right (And.right (And.right (And.right (And.right (And.right (by assumption)))))))) | exact (And.right (And.right (And.right (And.right (And.right (And.right (And.right (And.right (by assumption))))))))) | exact (And.right (And.right (And.right (And.right (And.right (And.right (And.right (And.right (And.right (by assumption)))))))))) | exact (And.right (And.right (And.right (And.right (And.right (And.right (And.right (And.right (And.right (And.right (by assumption))))))))))) | exact (And.right (And.right (And.right (And.right (And.right (And.right (And.right (And.right (And.right (And.right (And.right (by assumption)))))))))))) | exact (And.right (And.right (And.right (And.right (And.right (And.right (And.right (And.right (And.right (And.right (And.right (And.right (by assumption))))))))))))) | exact (And.right (And.right (And.right (And.right (And.right (And.right (And.right (And.right (And.right (And.right (And.right (And.right (And.right (by assumption)))))))))))))))))
    exact List.forall_mem_nil _
  · subst hnm hvl
    repeat (refine List.forall_mem_cons.mpr ⟨⟨_, _, _, _, _, _, _, rfl, by k_mem, by decide, by decide, by decide +kernel, by decide +kernel⟩, ?_⟩)
    exact List.forall_mem_nil _
end Mine
end
section
open PySem PySem.W PySem.Calls PyProof.Rows PyProof.Rows.LCg
namespace Mine
section
variable {prog : Program} {w : World} {A : Around} {E : Value → Shared → Prop} {s : Shared} {h₀ : Heap} {L : Addr} {m : Str → Option Value} {env : Env} {nm vl : Nat → Array UInt8} {tkn tkv : Nat → Tok}
theorem allObj_imp : ∀ {ws : List (Addr × String)} {k k' : List (Addr × Obj) → Prop}, (∀ its, k its → k' its) → AllObj ws k → AllObj ws k'
  | [], _, _, h, x => h _ x
  | _ :: _, _, _, h, x => fun o e => allObj_imp (fun its => h _) (x o e)
theorem items_inv {target : PySem.Expr} {body : List Stmt} {Q : Flow → Shared → Prop} {ws : List (Addr × String)} {keep : List (Addr × Obj)} (J : (Str → Option Value) → List (Addr × Obj) → Prop) (keepJ : ∀ m n, J m n → SubL keep n)
    (done : ∀ m news h tk, J m news → Fr h₀ env.locals h m → News h₀ env.locals h news → Q .next { s with heap := h, toks := tk }) :
    ∀ (xs : List Itm), (∀ a ∈ xs, ∀ m news v h tk, J m news → a.Is v h → Fr h₀ env.locals h m → AllObj ws (fun its => News h₀ env.locals h (its ++ news) →
      wpAny (model prog w) A (assign target env v) (fun _ s₂ => wpAny (model prog w) A (execs body env) (UnrPostW h₀ env.locals { s with heap := h, toks := tk } its J Q) E s₂) E { s with heap := h, toks := tk })) →
    ∀ m news, J m news → ItemsRest prog w A E h₀ env target body Q s ws keep xs m news
  | [], _, m, news, hJ => ItemsRest.zero fun h tk F N => done m news h tk hJ F N
  | a :: r, step, m, news, hJ => by
    have ih := items_inv J keepJ done r fun b hb => step b (.tail _ hb)
    intro v h tk ha F
    refine allObj_imp (fun its H N => ?_) (step a (.head _) m news v h tk hJ ha F)
    refine wpAny_mono (H N) (fun _ s₂ h₂ => wpAny_mono h₂ (fun f s₃ h₃ => ?_) fun _ _ e => e) fun _ _ e => e
    have conv : UnrEndW h₀ env.locals { s with heap := h, toks := tk } its J s₃ → UnrEndW h₀ env.locals { s with heap := h, toks := tk } its (fun m' n' => SubL keep n' ∧ ItemsRest prog w A E h₀ env target body Q s ws keep r m' n') s₃ := by
      rintro ⟨h', tk', m', news', e, F', N', ho, hJ'⟩
      exact ⟨h', tk', m', news', e, F', N', ho, keepJ _ _ hJ', ih _ _ hJ'⟩
    cases f with
    | ret v => exact h₃
    | brk => exact h₃
    | next => exact conv h₃
    | cont => exact conv h₃
theorem rows_sub {value slice : PySem.Expr} {u : Tok} {i : Int} {rd : Addr} {n : Nat} {news : List (Addr × Obj)} {Q : Value → Shared → Prop} (N : News h₀ L s.heap news) (hm : (rd, listOf ((List.range 99).map fun i => Value.ref (15 + i)).toArray n) ∈ news)
    (h0 : 0 ≤ i) (h1 : i < 99) (h : Q (.ref (15 + i.toNat)) s)
    (hs : subscripted slice false (.ref rd) (.int i u) = operate [.ref rd, .int i u] (getItem (.ref rd) (.int i u)) := by with_unfolding_all rfl) :
    wpAny (model prog w) A (subscriptTail value slice (.ref rd) (.int i u)) Q E s := by
  have hL := PySem.IsL.isList (n := n) (N _ hm).1
  exact tail_any hL.typeIs slot_list_getitem.lookup (wpAny_getItem_list hL h0 (by omega) (by simpa using rows_at h0 h1) h) hs
theorem row_same {i : Nat} {D : Addr} {a b : Array UInt8} {ta tb : Tok} {n : Nat} {news : List (Addr × Obj)} {Q : Value → Shared → Prop} (R : Tab w.params nm vl tkn tkv) (F : Fr h₀ L s.heap m) (X : (Mine.hd.heap_39 w.params).In h₀) (N : News h₀ L s.heap news)
    (hm : (D, ({ cls := .type "tuple", data := .seq #[.bytes a ta, .bytes b tb] n } : Obj)) ∈ news) (hi : i < 99) (ha : (nm i).toList = a.toList) (hb : (vl i).toList = b.toList) (hu : A.units < cLine) (h : Q (.bool false) s) :
    wpAny (model prog w) A (compareOp .NotEq (.ref (15 + i)) (.ref D)) Q E s := by
  have ho := (X.keeps F.keep) _ _ (R.row i hi)
  refine ne_pair ⟨_, ho, rfl, _, rfl⟩ ⟨_, (N _ hm).1, rfl, _, rfl⟩ hu (eqAt_bytes _ _ _ _) (eqAt_bytes _ _ _ _) ?_
  have e : (!((nm i).toList == a.toList && (vl i).toList == b.toList)) = false := by rw [ha, hb]; simp
  rw [e]; exact h
end
theorem pack_m {h₀ h : Heap} {L : Addr} {m : Str → Option Value} {v : Value} (F : Fr h₀ L h m) (e : m (Str.ofString "box") = some v) : ∃ m₀ : Str → Option Value, m₀ (Str.ofString "box") = some v ∧ Fr h₀ L h m₀ := ⟨m, e, F⟩
theorem news_pick {h₀ h : Heap} {L : Addr} {l : List (Addr × Obj)} (N : News h₀ L h l) (is : List Nat) {q : List (Addr × Obj)} (e : is.filterMap (l[·]?) = q) : News h₀ L h q := by
  subst e
  intro p hp
  obtain ⟨i, _, hi⟩ := List.mem_filterMap.mp hp
  exact N p (List.mem_of_getElem? hi)
theorem news_comm {h₀ h : Heap} {L : Addr} {l r : List (Addr × Obj)} (N : News h₀ L h (l ++ r)) : News h₀ L h (r ++ l) := fun p hp => N p (by
  rcases List.mem_append.mp hp with h | h
  · exact List.mem_append_right _ h
  · exact List.mem_append_left _ h)
def KJ (m₀ : Str → Option Value) (c2 c3 : Addr) (rest : List (Addr × Obj)) (m : Str → Option Value) (news : List (Addr × Obj)) : Prop :=
  ∃ u o2 o3 v2 v3, m = (fun y => if y = (Str.ofString "index") then u else m₀ y) ∧ o2.data = .cell v2 ∧ o3.data = .cell v3 ∧ news = (c2, o2) :: (c3, o3) :: rest
theorem KJ.start {m₀ : Str → Option Value} {c2 c3 : Addr} {rest : List (Addr × Obj)} {o2 o3 : Obj} {v2 v3 : Option Value} (h2 : o2.data = .cell v2) (h3 : o3.data = .cell v3) : KJ m₀ c2 c3 rest m₀ ((c2, o2) :: (c3, o3) :: rest) :=
  ⟨m₀ (Str.ofString "index"), o2, o3, v2, v3, by funext y; by_cases e : y = Str.ofString "index" <;> simp [e], h2, h3, rfl⟩
theorem subL_of {l all : List (Addr × Obj)} : (∀ p ∈ l, p ∈ all) → SubL l all := by
  induction l with
  | nil => intro _; trivial
  | cons p r ih => exact fun h => ⟨h p (.head _), ih fun q hq => h q (.tail _ hq)⟩
theorem KJ.next {m₀ : Str → Option Value} {c2 c3 : Addr} {rest : List (Addr × Obj)} {o2 o3 : Obj} {v2 v3 w u : Option Value} (h2 : o2.data = .cell v2) (h3 : o3.data = .cell v3) :
    KJ m₀ c2 c3 rest (fun y => if y = (Str.ofString "index") then w else if y = (Str.ofString "index") then u else m₀ y) ((c2, o2) :: (c3, o3) :: rest) :=
  ⟨w, o2, o3, v2, v3, by funext y; by_cases e : y = Str.ofString "index" <;> simp [e], h2, h3, rfl⟩
theorem unrEnd_one {h₀ : Heap} {L I : Addr} {s₁ : Shared} {oI : Obj} {rest : (Str → Option Value) → List (Addr × Obj) → Prop} {h' : Heap} {tk : Nat} {m' : Str → Option Value} {news' : List (Addr × Obj)}
    (F : Fr h₀ L h' m') (N : News h₀ L h' ((I, oI) :: news')) (off : AllLt I news') (r : rest m' news') : UnrEndW h₀ L s₁ [(I, oI)] rest { s₁ with heap := h', toks := tk } :=
  ⟨h', tk, m', news', rfl, F, N, fun p hp q hq => by rw [List.mem_singleton.mp hq]; exact Nat.ne_of_lt (allLt_mem off p hp), r⟩
end Mine
end
section
open PySem PySem.W PySem.Calls PyProof.Rows PyProof.Rows.LCg
namespace Mine
theorem slot_upper : Slot "bytes" "upper" "bytes.upper" :=
  .of (owner := "bytes") (n := "upper") (by rw [typeLookup_type, builtinLookup_eq_fast]; kernel_rfl) (by decide +kernel) (by decide +kernel) (by decide +kernel)
    (by first | exact .inl (by decide +kernel) | exact .inr (by decide +kernel)) (by rw [isSubtype_type]; kernel_rfl)
theorem type_upper : typeOf (.builtin "bytes.upper") = pure (.type "method_descriptor") := by show builtinType _ = _; rw [builtinType_eq_fast]; kernel_rfl
theorem entry_upper : entryFor table "bytes.upper" = some Builtin.«bytes.upper» := entryFor_of_tree (by kernel_rfl)
theorem args_upper (a : Value) : argsOk "bytes.upper" ⟨[a], []⟩ := by unfold argsOk; kernel_rfl
/-- the bytes with the small letters turned -/
def upL (l : List UInt8) : List UInt8 := l.map Builtin.Bytes.toUpper
theorem meets_upper {b : Array UInt8} {t : Tok} (hsz : b.size ≤ 1000) : Meets (Builtin.«bytes.upper» ⟨[.bytes b t], []⟩) (fun _ R s => R (.ok (.ret (.bytes (upL b.toList).toArray s.toks))) { s with toks := s.toks + 1 }) := by
  refine .of_wp fun prog w A R s h => ?_
  show wpAny _ _ (Builtin.Bytes.payload (.bytes b t) >>= fun p => _) _ _ s
  refine wpAny_bind (wpAny_bind (wpAny_pure (wpAny_pure ?_)))
  show wpAny _ _ (mkBytes (upL b.toList).toArray >>= fun v => ret v) _ _ s
  refine wpAny_bind (wpAny_mkBytes (wpAny_pure ⟨_, rfl, h⟩) ?_)
  rw [List.size_toArray]
  unfold upL
  rw [List.length_map, Array.length_toList, sizeLine_eq]
  omega
section
variable {prog : Program} {w : World} {A : Around} {E : Value → Shared → Prop} {s : Shared} {h₀ : Heap} {L : Addr} {m : Str → Option Value}
theorem get_upper {M : Model} {b : Array UInt8} {t : Tok} {pl : Sem Bool} {Q : Value × List Value → Shared → Prop} (h : Q (.builtin "bytes.upper", [.bytes b t]) s) : wpAny M A (getMethod (.bytes b t) (Str.ofString "upper") pl) Q E s := by
  with_reducible exact KBd.method_of (.bytes b t) (typeIs_bytes _ _ _) slot_upper type_upper KBd.noRef h
theorem call_upper {b : Array UInt8} {t : Tok} {Q : Value → Shared → Prop} (hsz : b.size ≤ 1000) (h : ∀ t' k, Q (.bytes (upL b.toList).toArray t') { s with toks := k }) :
    wpAny (model prog w) A (call (.builtin "bytes.upper") [.bytes b t]) Q E s :=
  call_meets slot_upper (typeIs_bytes _ _ _) entry_upper (args_upper _) (meets_upper hsz) (h _ _)
end
/-! the plain facts -/
theorem filter_head (T : Nat → Bool) : ∀ n, (List.range n).find? T = ((List.range n).filter T).head? := fun n => by
  rw [List.head?_filter]
theorem ixU_head (nm vl : Nat → Array UInt8) (n v : List UInt8) : ixU nm vl n v 99 = (((List.range 99).filter fun j => (nm j).toList == n).filter fun j => (vl j).toList == v).head? := by
  unfold ixU
  rw [List.filter_filter, filter_head]
  congr 1
  congr 1
  funext j
  exact Bool.and_comm _ _
theorem fxU_head (nm : Nat → Array UInt8) (n : List UInt8) : fxU nm n 99 = ((List.range 99).filter fun j => (nm j).toList == n).head? := filter_head _ _
theorem ixU_none {nm vl : Nat → Array UInt8} {n : List UInt8} (v : List UInt8) (h : fxU nm n 99 = none) : ixU nm vl n v 99 = none := by
  rw [ixU_head]
  rw [fxU_head, List.head?_eq_none_iff] at h
  rw [h]
  rfl
structure Facts (nm vl : Nat → Array UInt8) : Prop where
  dist : ∀ i, i < 99 → ∀ j, j < 99 → (nm j).toList = (nm i).toList → (vl j).toList = (vl i).toList → j = i
  bang : ∀ i, i < 99 → fxU nm ((nm i).toList ++ [33]) 99 = none
  up : ∀ i, i < 99 → fxU nm (upL (nm i).toList) 99 = none
  upne : ∀ i, i < 99 → (nm i).toList ≠ upL (nm i).toList
  size : ∀ i, i < 99 → (nm i).size ≤ 100 ∧ (vl i).size ≤ 100
set_option maxRecDepth 100000 in
theorem facts_is : Facts nmT vlT where
  dist := by decide +kernel
  bang := by decide +kernel
  up := by decide +kernel
  upne := by decide +kernel
  size := by decide +kernel
theorem exact_is {nm vl : Nat → Array UInt8} (Fa : Facts nm vl) {i : Nat} (hi : i < 99) : ((List.range 99).filter fun j => (nm j).toList == (nm i).toList).filter (fun j => (vl j).toList == (vl i).toList) = [i] := by
  rw [List.filter_filter]
  have e : (List.range 99).filter (fun j => (vl j).toList == (vl i).toList && (nm j).toList == (nm i).toList) = (List.range 99).filter (fun j => j == i) := by
    apply List.filter_congr
    intro j hj
    have hj' := List.mem_range.mp hj
    rw [Bool.eq_iff_iff]
    simp only [Bool.and_eq_true, beq_iff_eq]
    exact ⟨fun h => Fa.dist i hi j hj' h.2 h.1, fun h => by subst h; exact ⟨rfl, rfl⟩⟩
  rw [e]
  have : ∀ n, i < n → (List.range n).filter (fun j => j == i) = [i] := by
    intro n
    induction n with
    | zero => intro h; omega
    | succ n ih =>
      intro h
      rw [List.range_succ, List.filter_append]
      by_cases hin : i = n
      · subst hin
        have z : (List.range i).filter (fun j => j == i) = [] := by
          rw [List.filter_eq_nil_iff]
          intro j hj
          have := List.mem_range.mp hj
          simp; omega
        rw [z]; simp
      · rw [ih (by omega)]
        have : (n == i) = false := by simp; omega
        simp [List.filter_cons, this]
  exact this 99 hi
end Mine
end
section
open PySem PySem.W PySem.Calls PyProof.Rows PyProof.Rows.LCg
namespace Mine
theorem off1_mem {D : Addr} : ∀ {l : List (Addr × Obj)}, Off1 D l → ∀ p ∈ l, p.1 ≠ D
  | [], _, _, h => nomatch h
  | p :: r, h, q, hq => by
    rcases List.mem_cons.mp hq with rfl | hq
    · exact h.1
    · exact off1_mem h.2 q hq
theorem ints_at {vs : List Value} {ns : List Int} (h : IntsAre vs ns) : ∀ {i : Nat} {v : Value}, vs[i]? = some v → ∃ n t, ns[i]? = some n ∧ v = .int n t := by
  induction h with
  | nil => intro i v h; simp at h
  | cons n t _ ih =>
    intro i v h
    cases i with
    | zero => exact ⟨n, t, rfl, by simpa using h.symm⟩
    | succ i => exact ih (by simpa using h)
section
variable {prog : Program} {w : World} {A : Around} {E : Value → Shared → Prop} {s : Shared} {h₀ : Heap} {L : Addr} {m : Str → Option Value} {env : Env}
open PyProof.Rows.LCt in
theorem Assign_sift {iter c : PySem.Expr} {a y : Str} {pa pe py : Pos} {scope : Scope} {cl : List (Str × Addr)} {pos spos : Pos} {l : Addr} {vs : List Value} {ns : List Int} {n : Nat} {T : Int → Bool} {news : List (Addr × Obj)} {Q : Flow → Shared → Prop}
    (F : Fr h₀ L s.heap m) (N : News h₀ L s.heap news) (hh : A.handled = none) (hLe : env.locals = L)
    (hsw : swapsWith (.ListComp (.Name a pe) [⟨.Name a pa, iter, [c], 0⟩] scope pos) (some (.Name y py)) spos.line env = pure true)
    (hclos : closureFor scope env = pure cl) (hcell : ∀ z ∈ scope.names, z.2 ≠ .cell) (hkind : scope.kind = .function)
    (hnames : ∀ z ∈ scope.names, z.2 = .local → scope.names.lookup z.1 = some .local) (hxa : scope.names.lookup a = some .local) (had : (a == ("__debug__" : Str)) = false)
    (hy : env.kindOf y = some .local) (hp : (env.scope.kind == .class || (env.scope.kind == .module && env.locals != env.globals)) = false)
    (hm : (l, listOf vs.toArray n) ∈ news) (hi : IntsAre vs ns) (hsz : ns.length ≤ sizeLine)
    (src : ∀ (Q : Value → Shared → Prop), Q (.ref l) s → wpAny (model prog w) A (eval iter env) Q E s)
    (test : ∀ (k : Int) t C oC m₂ h tk (E' : Value → Shared → Prop), k ∈ ns → NsObj oC m₂ → m₂ a = some (.int k t) → Fr h₀ L h m → News h₀ L h ((C, oC) :: news) →
      wpAny (model prog w) A (isTrue c (compEnvC scope cl C env) (eval c (compEnvC scope cl C env))) (fun ok s' => ok = T k ∧ ∃ tk', s' = { s with heap := h, toks := tk' }) E' { s with heap := h, toks := tk })
    (done : ∀ D h tk ys, Fr h₀ L h (fun z => if z = y then some (.ref D) else m z) → News h₀ L h ((D, lst ys) :: news) → (∀ p ∈ news, p.1 ≠ D) → IntsAre ys (ns.filter T) → Q .next { s with heap := h, toks := tk })
    (hs : ∀ x, foldedSetIterable iter env x = pure x := by intro _; rfl) :
    wpAny (model prog w) A (exec (.Assign [.Name y py] (.ListComp (.Name a pe) [⟨.Name a pa, iter, [c], 0⟩] scope pos) spos) env) Q E s := by
  refine LCt.Assign_ListComp_T F hLe hsw hclos hcell hkind hnames hxa hy hp ?_ hs
  refine src _ ?_
  have hlen : vs.toArray.size = ns.length := by rw [List.size_toArray]; exact hi.length
  refine CompSrcT.ledger hh F N hm (by rw [hlen]; exact hsz) fun g => ?_
  rw [hlen]
  have main : ∀ k i ys, k + i = ns.length → IntsAre ys ((ns.take i).filter T) →
      CompRestT prog w A h₀ L m env c (.Name a pe) a scope cl { s with heap := g } (SrcAt h₀ l vs.toArray) (fun i v => vs.toArray[i]? = some v) (FinA h₀ L m { s with heap := g } y Q) k i ys news := by
    intro k
    induction k with
    | zero =>
      intro i ys hi' hys
      refine CompRestT.zero ?_
      intro D h tk F' N' off
      rw [List.take_of_length_le (by omega)] at hys
      exact done D h tk ys F' N' (off1_mem off) hys
    | succ k ih =>
      intro i ys hi' hys
      refine CompRestT.succ fun v I oI C oC D m₂ h tk E' hP hC hx F' N' off ne => ?_
      obtain ⟨k', t, hk', rfl⟩ := ints_at hi (i := i) (v := v) (by simpa using hP)
      have htake : ns.take (i + 1) = ns.take i ++ [k'] := by rw [List.take_add_one, hk']; rfl
      refine wpAny_mono (test k' t C oC m₂ h tk E' (List.mem_of_getElem? hk') hC hx F' (fun p hp => N' p (by
        rcases List.mem_cons.mp hp with rfl | hp
        · exact .tail _ (.head _)
        · exact .tail _ (.tail _ (.tail _ hp))))) (fun ok s' hok => ?_) fun _ _ e => e
      obtain ⟨rfl, tk', rfl⟩ := hok
      by_cases hT : T k' = true
      · rw [if_pos hT]
        refine wpAny_Name (wpAny_loadName_local (by simp [compEnvC, relabel, hkind]) (lookup_relabel_local hxa) (hC.ns (N' _ (.tail _ (.head _))).1) hx ?_) had
        refine ⟨h, tk', news, rfl, F', N', off, .inr ⟨_, hm, rfl, _, rfl⟩, ih (i + 1) _ (by omega) ?_⟩
        rw [htake, List.filter_append]
        have e : [k'].filter T = [k'] := by simp [hT]
        rw [e]
        exact intsAre_snoc hys k' t
      · rw [if_neg hT]
        refine ⟨h, tk', news, rfl, F', N', off, .inr ⟨_, hm, rfl, _, rfl⟩, ih (i + 1) _ (by omega) ?_⟩
        rw [htake, List.filter_append]
        have e : [k'].filter T = [] := by simp [hT]
        rw [e, List.append_nil]
        exact hys
  exact main ns.length 0 [] (by omega) .nil
end
end Mine
namespace Mine
section
variable {prog : Program} {w : World} {A : Around} {E : Value → Shared → Prop} {s : Shared} {env : Env} {h₀ : Heap} {x : Str} {body : List Stmt} {Q : Flow → Shared → Prop}
theorem range_inv {I : Addr} {a : Int} {n : Nat} (J : (Str → Option Value) → List (Addr × Obj) → Prop)
    (step : ∀ (i : Nat) t m news it h tk, J m news → Fr h₀ env.locals h (fun y => if y = x then some (.int (a + (i : Int)) t) else m y) → News h₀ env.locals h ((I, it) :: news) →
      wpAny (model prog w) A (execs body env) (UnrPost h₀ env.locals { s with heap := h, toks := tk } I it J Q) E { s with heap := h, toks := tk })
    (done : ∀ m news h tk, J m news → Fr h₀ env.locals h m → News h₀ env.locals h news → Q .next { s with heap := h, toks := tk }) :
    ∀ (k i : Nat) m news, J m news → RangeRest prog w A E h₀ env x body Q s I a n k i m news
  | 0, _, m, news, hJ => RangeRest.zero fun h tk F N => done m news h tk hJ F N
  | k + 1, i, m, news, hJ => RangeRest.succ fun t h tk F N => by
    have ih := range_inv (n := n) J step done k (i + 1)
    refine wpAny_mono (step i t m news _ h tk hJ F N) (fun f s₃ h₃ => ?_) fun _ _ e => e
    have conv : UnrEnd h₀ env.locals { s with heap := h, toks := tk } I (itR (a + ((i + 1 : Nat) : Int)) ((n : Int) - ((i + 1 : Nat) : Int))) J s₃ → UnrEnd h₀ env.locals { s with heap := h, toks := tk } I (itR (a + ((i + 1 : Nat) : Int)) ((n : Int) - ((i + 1 : Nat) : Int))) (RangeRest prog w A E h₀ env x body Q s I a n k (i + 1)) s₃ := by
      rintro ⟨h', tk', m', news', e, F', N', ho, hJ'⟩
      exact ⟨h', tk', m', news', e, F', N', ho, ih _ _ hJ'⟩
    cases f with
    | ret v => exact h₃
    | brk => exact h₃
    | next => exact conv h₃
    | cont => exact conv h₃
end
abbrev rowsL : List Value := (List.range 99).map fun i => Value.ref (15 + i)
def TJ (m₀ : Str → Option Value) (bx b rd c1 c2 c3 c4 : Addr) (m : Str → Option Value) (news : List (Addr × Obj)) : Prop :=
  ∃ u1 u2 u3 u4 st t n xs ns k nr o1 o2 o3 o4 v2 v3 v4,
    m = (fun y => if y = (Str.ofString "turn") then u1 else if y = (Str.ofString "due") then u2 else if y = (Str.ofString "exact") then u3 else if y = (Str.ofString "spots") then u4 else m₀ y) ∧
    IntsAre xs ns ∧ ns.length ≤ 24 ∧ 0 ≤ st ∧ st < 2147483647 ∧ o1.data = .cell (some (.ref rd)) ∧ o2.data = .cell v2 ∧ o3.data = .cell v3 ∧ o4.data = .cell v4 ∧
    news = [(bx, listOf #[.ref b, .int st t] n), (b, listOf xs.toArray k), (rd, listOf rowsL.toArray nr), (c1, o1), (c2, o2), (c3, o3), (c4, o4)]
theorem TJ.start {m₀ : Str → Option Value} {bx b rd c1 c2 c3 c4 : Addr} {st : Int} {t : Tok} {n k nr : Nat} {xs : List Value} {ns : List Int} {o1 o2 o3 o4 : Obj} {v2 v3 v4 : Option Value} (hi : IntsAre xs ns) (hl : ns.length ≤ 24) (h0 : 0 ≤ st) (h1 : st < 2147483647)
    (d1 : o1.data = .cell (some (.ref rd))) (d2 : o2.data = .cell v2) (d3 : o3.data = .cell v3) (d4 : o4.data = .cell v4) :
    TJ m₀ bx b rd c1 c2 c3 c4 m₀ [(bx, listOf #[.ref b, .int st t] n), (b, listOf xs.toArray k), (rd, listOf rowsL.toArray nr), (c1, o1), (c2, o2), (c3, o3), (c4, o4)] :=
  ⟨m₀ (Str.ofString "turn"), m₀ (Str.ofString "due"), m₀ (Str.ofString "exact"), m₀ (Str.ofString "spots"), st, t, n, xs, ns, k, nr, o1, o2, o3, o4, v2, v3, v4,
    by funext y; by_cases e1 : y = Str.ofString "turn"
       · simp [e1]
       by_cases e2 : y = Str.ofString "due"
       · subst e2; rfl
       by_cases e3 : y = Str.ofString "exact"
       · subst e3; rfl
       by_cases e4 : y = Str.ofString "spots"
       · subst e4; rfl
       simp [e1, e2, e3, e4], hi, hl, h0, h1, d1, d2, d3, d4, rfl⟩
end Mine
namespace Mine
def PwNe : List (Addr × Obj) → Prop
  | [] => True
  | p :: r => AllNe p.1 r ∧ PwNe r
where AllNe (a : Addr) : List (Addr × Obj) → Prop
  | [] => True
  | q :: r => @Ne Nat a q.1 ∧ AllNe a r
theorem pw_of {h₀ h : Heap} {L : Addr} {l : List (Addr × Obj)} (_N : News h₀ L h l) (x : PwNe l) : PwNe l := x
end Mine
namespace Mine
theorem box_keep {m₁ m₀ : Str → Option Value} {u : Option Value} {v : Value} (e : m₁ = fun y => if y = Str.ofString "index" then u else m₀ y) (h : m₀ (Str.ofString "box") = some v) : m₁ (Str.ofString "box") = some v := by
  rw [e]
  exact (if_neg (by decide)).trans h
end Mine
namespace Mine
theorem row_tup {w : World} {s : Shared} {h₀ : Heap} {L : Addr} {m : Str → Option Value} {nm vl : Nat → Array UInt8} {tkn tkv : Nat → Tok} {i : Nat} (R : Tab w.params nm vl tkn tkv) (F : Fr h₀ L s.heap m) (X : (Mine.hd.heap_39 w.params).In h₀) (hi : i < 99) :
    IsTup s.heap (15 + i) #[.bytes (nm i) (tkn i), .bytes (vl i) (tkv i)] := ⟨_, (X.keeps F.keep) _ _ (R.row i hi), rfl, _, rfl⟩
end Mine
namespace Mine
theorem rowsL_size : rowsL.toArray.size = 99 := by simp
theorem rowsL_get {i : Nat} {x : Value} (h : rowsL.toArray[i]? = some x) : i < 99 ∧ x = .ref (15 + i) := by
  have hi : i < 99 := by
    have := (Array.getElem?_eq_some_iff.mp h).1
    simpa using this
  exact ⟨hi, by simpa [hi] using h.symm⟩
end Mine
end
section
open PySem PySem.W PySem.Calls PyProof.Rows PyProof.Rows.LCg
namespace Mine
theorem spots_cons (nm : Nat → Array UInt8) {κ : Nat} (hκ : κ < 99) : ∃ f rest, (List.range 99).filter (fun j => (nm j).toList == (nm κ).toList) = f :: rest ∧ fxU nm (nm κ).toList 99 = some f := by
  have hm : κ ∈ (List.range 99).filter (fun j => (nm j).toList == (nm κ).toList) := List.mem_filter.mpr ⟨List.mem_range.mpr hκ, by simp⟩
  cases e : (List.range 99).filter (fun j => (nm j).toList == (nm κ).toList) with
  | nil => rw [e] at hm; cases hm
  | cons f rest => exact ⟨f, rest, rfl, by rw [fxU_head, e]; rfl⟩
theorem spotsTo_mem {T : Nat → Bool} {k : Int} (h : k ∈ spotsTo T 99) : 0 ≤ k ∧ k < 99 ∧ k.toNat < 99 := by
  unfold spotsTo at h
  obtain ⟨j, hj, rfl⟩ := List.mem_map.mp h
  have := List.mem_range.mp (List.mem_filter.mp hj).1
  refine ⟨by omega, by omega, by omega⟩
theorem sift_is (T : Nat → Bool) (p : Nat → Bool) : (spotsTo T 99).filter (fun k => p k.toNat) = (((List.range 99).filter T).filter p).map fun (j : Nat) => (j : Int) := by
  unfold spotsTo
  rw [List.filter_map]
  congr 1
theorem intsAre_one {ys : List Value} {n : Int} (h : IntsAre ys [n]) : ∃ t, ys = [.int n t] := by
  cases h with
  | cons _ t h' => cases h'; exact ⟨t, rfl⟩
theorem intsAre_nil {ys : List Value} (h : IntsAre ys []) : ys = [] := by cases h; rfl
theorem intsAre_cons {ys : List Value} {n : Int} {ns : List Int} (h : IntsAre ys (n :: ns)) : ∃ t r, ys = .int n t :: r ∧ IntsAre r ns := by
  cases h with
  | cons _ t h' => exact ⟨t, _, rfl, h'⟩
theorem match_ok' {prog : Program} {w : World} {loose : List Str} {mean : ExcName → Option Value} {mg mb : Str → Option Value} {dp un : Nat} {gd : Option (List Code)} {cn : Str} {cs : Scope} {a : Addr} {ccd : Value} {cl : List (Str × Addr)} {outer : List Env} {A₀ : Around} {base h₀ : Heap} {L : Addr} {m : Str → Option Value} {s : Shared} {Q E : Value → Shared → Prop}
    {nm vl : Nat → Array UInt8} {tkn tkv : Nat → Tok} (R : Tab w.params nm vl tkn tkv) {na va : Array UInt8} {tn tv : Tok} {news : List (Addr × Obj)} {o1 o2 : Option Nat}
    (B : Below A₀ base outer h₀) (F : Fr h₀ L s.heap m) (X : (Mine.hd.heap_39 w.params).In h₀)
    (N : News h₀ L s.heap news)
    (T : Top Mine.hd.view_39 loose mean mg mb h₀) (hk : cs.kind = .function) (hd : dp + 1 < recursionLimit) (hu : un + 8 < cLine)
    (e1 : ixU nm vl na.toList va.toList 99 = o1) (e2 : fxU nm na.toList 99 = o2)
    (hret : ∀ (q : Addr) (t1 t2 : Tok) (h' : Heap) (tk' : Nat), Fr h₀ L h' m → News h₀ L h' ((q, { cls := .type "tuple", data := .seq #[ov o1 t1, ov o2 t2] }) :: news) → (∀ p ∈ news, p.1 < q) → Q (.ref q) { s with heap := h', toks := tk' }) :
    wpAny (model prog w) (ktrTop dp un gd cn cs L a ccd cl outer) (call (.ref 128) [.bytes na tn, .bytes va tv]) Q E s := by
  subst e1 e2
  exact match_ok R B F X N T hk hd hu hret
section
variable {prog : Program} {w : World} {A : Around} {E : Value → Shared → Prop} {s : Shared} {h₀ : Heap} {L : Addr} {m : Str → Option Value} {news : List (Addr × Obj)}
theorem ov_none : ∃ u, Value.none = ov none u := ⟨0, rfl⟩
theorem pair_same {q q2 : Addr} {o1 o2 : Option Nat} {t1 t2 : Tok} {y1 y2 : Value} {n n2 : Nat} {Q : Value → Shared → Prop} (N : News h₀ L s.heap news)
    (hm : (q, ({ cls := .type "tuple", data := .seq #[ov o1 t1, ov o2 t2] n } : Obj)) ∈ news) (hm2 : (q2, ({ cls := .type "tuple", data := .seq #[y1, y2] n2 } : Obj)) ∈ news)
    (h1 : ∃ u, y1 = ov o1 u) (h2 : ∃ u, y2 = ov o2 u) (hu : A.units < cLine) (h : Q (.bool false) s) : wpAny (model prog w) A (compareOp .NotEq (.ref q) (.ref q2)) Q E s := by
  obtain ⟨u1, rfl⟩ := h1
  obtain ⟨u2, rfl⟩ := h2
  refine ne_pair ⟨_, (N _ hm).1, rfl, _, rfl⟩ ⟨_, (N _ hm2).1, rfl, _, rfl⟩ hu (eqAt_ov _ _ _ _) (eqAt_ov _ _ _ _) ?_
  have e : (!((o1 == o1) && (o2 == o2))) = false := by simp
  rw [e]; exact h
theorem ne_upper {b c : Array UInt8} {t u : Tok} {Q : Value → Shared → Prop} (hne : b.toList ≠ c.toList) (h : Q (.bool true) s) : wpAny (model prog w) A (compareOp .NotEq (.bytes b t) (.bytes c u)) Q E s := by
  refine ne_bytes ?_
  have e : (b.toList != c.toList) = true := by simpa using hne
  rw [e]; exact h
end
end Mine
namespace Mine
theorem allNe_of {D : Addr} : ∀ {l : List (Addr × Obj)}, (∀ p ∈ l, p.1 ≠ D) → PwNe.AllNe D l
  | [], _ => trivial
  | p :: _, h => ⟨fun e => h p (.head _) e.symm, allNe_of fun q hq => h q (.tail _ hq)⟩
end Mine
namespace Mine
theorem pack_tv {o : Obj} {b : Array UInt8} {t : Tok} (d : o.data = .cell (some (.bytes b t))) : ∃ tv ttv, o.data = .cell (some (.bytes tv ttv)) := ⟨b, t, d⟩
end Mine
namespace Mine
theorem TJ.next {m₁ : Str → Option Value} {bx b rd c1 c2 c3 c4 : Addr} {st : Int} {t : Tok} {n k nr : Nat} {xs : List Value} {ns : List Int} {o1 o2 o3 o4 : Obj} {v2 v3 v4 a1 a2 a3 a4 u1 u2 u3 u4 : Option Value} (hi : IntsAre xs ns) (hl : ns.length ≤ 24) (h0 : 0 ≤ st) (h1 : st < 2147483647)
    (d1 : o1.data = .cell (some (.ref rd))) (d2 : o2.data = .cell v2) (d3 : o3.data = .cell v3) (d4 : o4.data = .cell v4) :
    TJ m₁ bx b rd c1 c2 c3 c4 (fun z => if z = (Str.ofString "due") then a2 else if z = (Str.ofString "exact") then a3 else if z = (Str.ofString "spots") then a4 else if z = (Str.ofString "turn") then a1 else
      (fun y => if y = (Str.ofString "turn") then u1 else if y = (Str.ofString "due") then u2 else if y = (Str.ofString "exact") then u3 else if y = (Str.ofString "spots") then u4 else m₁ y) z)
      [(bx, listOf #[.ref b, .int st t] n), (b, listOf xs.toArray k), (rd, listOf rowsL.toArray nr), (c1, o1), (c2, o2), (c3, o3), (c4, o4)] :=
  ⟨a1, a2, a3, a4, st, t, n, xs, ns, k, nr, o1, o2, o3, o4, v2, v3, v4, by
    funext y
    by_cases e1 : y = Str.ofString "turn"
    · subst e1; rfl
    by_cases e2 : y = Str.ofString "due"
    · subst e2; rfl
    by_cases e3 : y = Str.ofString "exact"
    · subst e3; rfl
    by_cases e4 : y = Str.ofString "spots"
    · subst e4; rfl
    simp only [if_neg e1, if_neg e2, if_neg e3, if_neg e4], hi, hl, h0, h1, d1, d2, d3, d4, rfl⟩
theorem unrEndR {h₀ : Heap} {L I : Addr} {s₁ : Shared} {oI : Obj} {rest : (Str → Option Value) → List (Addr × Obj) → Prop} {h' : Heap} {tk : Nat} {m' : Str → Option Value} {news' : List (Addr × Obj)}
    (F : Fr h₀ L h' m') (N : News h₀ L h' ((I, oI) :: news')) (off : AllLt I news') (r : rest m' news') : UnrEnd h₀ L s₁ I oI rest { s₁ with heap := h', toks := tk } :=
  ⟨h', tk, m', news', rfl, F, N, fun p hp => Nat.ne_of_lt (allLt_mem off p hp), r⟩
end Mine
end
open PySem PySem.W PySem.Calls PyProof.Rows PyProof.Rows.LCg Mine
local macro_rules | `(tactic| walk_at "exec Assign") => `(tactic| (((have h9 : Mine.Ph 1 := by with_reducible assumption); clear h9); (with_reducible show wpAny _ _ (exec (Stmt.Assign [Expr.Name (Str.ofString "rows") _] _ _) _) _ _ _); refine Stop.intro ?_))
local macro_rules | `(tactic| walk_at "exec If") => `(tactic| (((have h9 : Mine.Ph 2 := by with_reducible assumption); clear h9); (with_reducible show wpAny _ _ (exec (Stmt.If (Expr.BoolOp _ _ _) _ _ _) _) _ _ _); refine Stop.intro ?_))
local macro_rules | `(tactic| walk_at "eval ListComp") => `(tactic| (((have h9 : Mine.Ph 2 := by with_reducible assumption); clear h9); refine Stop.intro ?_))
local macro_rules | `(tactic| walk_at "CompSrc") => `(tactic| (((have h9 : Mine.Ph 2 := by with_reducible assumption); clear h9); refine Stop.intro ?_))
local macro_rules | `(tactic| walk_at "call ref") => `(tactic| (((have h9 : Mine.Ph 2 := by with_reducible assumption); clear h9); k_here; (with_reducible show wpAny _ _ (call (Value.ref 121) [Value.int _ _]) _ _ _); k_dflt (refine' row_in ?B ?F ?X ?N ?T ?hk ?hd ?hu ?h0 ?h1 ?_; (case B => k_asm); (case F => k_asm); (case X => k_asm); (case N => k_asm); (case T => k_asm); (case hk => exact rfl); (case hd => k_room); (case hu => k_units); (case h0 => omega); (case h1 => omega)); intro h' tk' F' N'))
local macro_rules | `(tactic| walk_at "compareOp In") => `(tactic| (((have h9 : Mine.Ph 3 := by with_reducible assumption); clear h9); k_here; (with_reducible show wpAny _ _ (compareOp CmpOp.In Value.none (Value.ref _)) _ _ _); k_dflt (refine' none_in ?R ?F ?X ?N ?m ?u ?_; (case R => assumption); (case F => k_asm); (case X => k_asm); (case N => k_asm); (case m => k_mem); (case u => k_units))))
local macro_rules | `(tactic| walk_at "call ref") => `(tactic| (((have h9 : Mine.Ph 3 := by with_reducible assumption); clear h9); k_here; (with_reducible show wpAny _ _ (call (Value.ref 121) [Value.int _ _]) _ _ _); k_dflt (refine' row_out ?B ?F ?X ?N ?T ?hk ?hd ?hu ?h0 ?_; (case B => k_asm); (case F => k_asm); (case X => k_asm); (case N => k_asm); (case T => k_asm); (case hk => exact rfl); (case hd => k_room); (case hu => k_units); (case h0 => omega)); intro h' tk' F' N'))
local macro_rules | `(tactic| walk_at "call ref") => `(tactic| (((have h9 : Mine.Ph 3 := by with_reducible assumption); clear h9); (with_reducible show wpAny _ _ (call (Value.ref 135) [Value.ref _, Value.int _ _]) _ _ _); k_dflt (refine' take_ok ?B ?F ?X ?N ?T ?hk ?hi ?hl ?h0 ?h1 ?hw ?hw2 ?hd ?hu ?hne ?off ?_; (case B => k_asm); (case F => k_asm); (case X => k_asm); (case N => first | k_asm | exact news_swap3 (by k_asm)); (case T => k_asm); (case hk => exact rfl); (case hi => assumption); (case hl => omega); (case h0 => assumption); (case h1 => assumption); (case hw => decide); (case hw2 => decide); (case hd => k_room); (case hu => k_units); (case hne => k_ne); (case off => (repeat' (first | exact List.forall_mem_nil _ | refine List.forall_mem_cons.mpr ⟨And.intro ?_ ?_, ?_⟩ | k_ne)))); intro r' t' h' tk' xs' ns' st' t'' n' k' hr0' hr1' hi' hl' hs0' hs1' F' N'))
local macro_rules | `(tactic| walk_at "eval ListComp") => `(tactic| (((have h9 : Mine.Ph 3 := by with_reducible assumption); clear h9); refine Stop.intro ?_))
local macro_rules | `(tactic| walk_at "TupSrc") => `(tactic| (((have h9 : Mine.Ph 3 := by with_reducible assumption); clear h9); refine Stop.intro ?_))
local macro_rules | `(tactic| walk_at "exec For") => `(tactic| (((have h9 : Mine.Ph 3 := by with_reducible assumption); clear h9); refine Stop.intro ?_))
local macro_rules | `(tactic| walk_at "call ref") => `(tactic| (((have h9 : Mine.Ph 4 := by with_reducible assumption); clear h9); k_here; (with_reducible show wpAny _ _ (call (Value.ref 149) _) _ _ _); k_dflt (refine' known_ok ?hnm ?hvl ?B ?F ?X ?N ?T ?hk ?hd ?hu ?_; (case hnm => assumption); (case hvl => assumption); (case B => k_asm); (case F => k_asm); (case X => k_asm); (case N => k_asm); (case T => k_asm); (case hk => exact rfl); (case hd => k_room); (case hu => k_units)); intro kl' tl' h' tk' F' N' hlt' hK'))
local macro_rules | `(tactic| k_mem) => `(tactic| (((have h9 : Mine.Ph 4 := by with_reducible assumption); clear h9); assumption))
local macro_rules | `(tactic| k_all) => `(tactic| (((have h9 : Mine.Ph 4 := by with_reducible assumption); clear h9); assumption))
local macro_rules | `(tactic| walk_at "UnrEndW") => `(tactic| (((have h9 : Mine.Ph 4 := by with_reducible assumption); clear h9); refine Stop.intro ?_))
local macro_rules | `(tactic| walk_at "subscriptTail Name Name ref int") => `(tactic| (((have h9 : Mine.Ph 4 := by with_reducible assumption); clear h9); k_here; (with_reducible show wpAny _ _ (subscriptTail _ _ (Value.ref _) (Value.int _ _)) _ _ _); k_dflt (refine' rows_sub ?N ?m ?a ?b ?_; (case N => k_asm); (case m => k_mem); (case a => assumption); (case b => assumption))))
local macro_rules | `(tactic| walk_at "compareOp NotEq ref ref") => `(tactic| (((have h9 : Mine.Ph 4 := by with_reducible assumption); clear h9); k_here; (with_reducible show wpAny _ _ (compareOp CmpOp.NotEq (Value.ref (15 + _)) (Value.ref _)) _ _ _); k_dflt (refine' row_same ?R ?F ?X ?N ?m ?i ?a ?b ?u ?_; (case R => assumption); (case F => k_asm); (case X => k_asm); (case N => k_asm); (case m => k_mem); (case a => assumption); (case b => assumption); (case i => omega); (case u => k_units))))
local macro_rules | `(tactic| walk_at "pyIter ref") => `(tactic| (((have h9 : Mine.Ph 4 := by with_reducible assumption); clear h9); refine Stop.intro ?_))
local macro_rules | `(tactic| walk_at "RangeRest") => `(tactic| (((have h9 : Mine.Ph 5 := by with_reducible assumption); clear h9); refine Stop.intro ?_))
local macro_rules | `(tactic| walk_at "eval Name") => `(tactic| (((have h9 : Mine.Ph 6 := by with_reducible assumption); clear h9); k_here; (with_reducible show wpAny _ _ (eval (Expr.Name (Str.ofString "box") _) _) _ _ _); k_dflt (refine' nameX_L ?F ?v ?_ ?a ?b; (case F => k_asm); (case a => rfl); (case b => rfl); (case v => with_unfolding_all assumption))))
local macro_rules | `(tactic| walk_at "call ref") => `(tactic| (((have h9 : Mine.Ph 6 := by with_reducible assumption); clear h9); (with_reducible show wpAny _ _ (call (Value.ref 135) [Value.ref _, Value.int _ _]) _ _ _); k_dflt (refine' take_ok ?B ?F ?X ?N ?T ?hk ?hi ?hl ?h0 ?h1 ?hw ?hw2 ?hd ?hu ?hne ?off ?_; (case B => k_asm); (case F => k_asm); (case X => k_asm); (case N => first | k_asm | exact news_swap3 (by k_asm)); (case T => k_asm); (case hk => exact rfl); (case hi => assumption); (case hl => omega); (case h0 => assumption); (case h1 => assumption); (case hw => decide); (case hw2 => decide); (case hd => k_room); (case hu => k_units); (case hne => k_ne); (case off => (repeat' (first | exact List.forall_mem_nil _ | refine List.forall_mem_cons.mpr ⟨And.intro ?_ ?_, ?_⟩ | k_ne)))); intro r' t' h' tk' xs' ns' st' t'' n' k' hr0' hr1' hi' hl' hs0' hs1' F' N'))
local macro_rules | `(tactic| walk_at "subscriptTail") => `(tactic| (((have h9 : Mine.Ph 6 := by with_reducible assumption); clear h9); k_here; (with_reducible show wpAny _ _ (subscriptTail _ _ (Value.ref _) (Value.int _ _)) _ _ _); k_dflt (refine' rows_sub ?N ?m ?a ?b ?_; (case N => k_asm); (case m => k_mem); (case a => assumption); (case b => assumption))))
local macro_rules | `(tactic| walk_at "subscriptTail") => `(tactic| (((have h9 : Mine.Ph 6 := by with_reducible assumption); clear h9); k_here; (with_reducible show wpAny _ _ (subscriptTail _ _ (Value.ref (_ + _)) (Value.int _ _)) _ _ _); first | refine row_sub0 (i := _) (by assumption) (by k_asm) (by k_asm) (by assumption) ?_ | refine row_sub1 (i := _) (by assumption) (by k_asm) (by k_asm) (by assumption) ?_))
local macro_rules | `(tactic| walk_at "call type:enumerate") => `(tactic| (((have h9 : Mine.Ph 6 := by with_reducible assumption); clear h9); refine Stop.intro ?_))
local macro_rules | `(tactic| walk_at "assign Tuple") => `(tactic| (((have h9 : Mine.Ph 6 := by with_reducible assumption); clear h9); k_here; (with_reducible show wpAny _ _ (assign (Expr.Tuple _ _ _) _ (Value.ref (15 + _))) _ _ _); k_dflt (refine' unpackN_ ?F ?N ?T ?k1 ?k2 ?k3 ?_; (case F => k_asm); (case N => k_asm); (case T => exact row_tup (by assumption) (by k_asm) (by k_asm) (by omega)); (case k1 => exact rfl); (case k2 => exact rfl); (case k3 => exact rfl)); intro h' F' N'))
local macro_rules | `(tactic| walk_at "exec Assign cons ListComp") => `(tactic| (((have h9 : Mine.Ph 6 := by with_reducible assumption); clear h9); refine Stop.intro ?_))
local macro_rules | `(tactic| walk_at "subscriptTail") => `(tactic| (((have h9 : Mine.Ph 7 := by with_reducible assumption); clear h9); k_here; (with_reducible show wpAny _ _ (subscriptTail _ _ (Value.ref _) (Value.int _ _)) _ _ _); k_dflt (refine' rows_sub ?N ?m ?a ?b ?_; (case N => k_asm); (case m => k_mem); (case a => assumption); (case b => assumption))))
local macro_rules | `(tactic| walk_at "subscriptTail") => `(tactic| (((have h9 : Mine.Ph 7 := by with_reducible assumption); clear h9); k_here; (with_reducible show wpAny _ _ (subscriptTail _ _ (Value.ref (_ + _)) (Value.int _ _)) _ _ _); first | refine row_sub0 (i := _) (by assumption) (by k_asm) (by k_asm) (by assumption) ?_ | refine row_sub1 (i := _) (by assumption) (by k_asm) (by k_asm) (by assumption) ?_))
local macro_rules | `(tactic| walk_at "exec Assign cons ListComp") => `(tactic| (((have h9 : Mine.Ph 7 := by with_reducible assumption); clear h9); refine Stop.intro ?_))
local macro_rules | `(tactic| walk_at "exec If") => `(tactic| (((have h9 : Mine.Ph 7 := by with_reducible assumption); clear h9); refine Stop.intro ?_))
local macro_rules | `(tactic| walk_at "call ref") => `(tactic| (((have h9 : Mine.Ph 8 := by with_reducible assumption); clear h9); k_here; (with_reducible show wpAny _ _ (call (Value.ref 128) [Value.bytes _ _, Value.bytes _ _]) _ _ _); k_dflt (refine' match_ok' ?R ?B ?F ?X ?N ?T ?hk ?hd ?hu ?e1 ?e2 ?_; (case R => assumption); (case B => k_asm); (case F => k_asm); (case X => k_asm); (case N => k_asm); (case T => k_asm); (case hk => exact rfl); (case hd => k_room); (case hu => k_units); (case e1 => assumption); (case e2 => assumption)); intro q' t1' t2' h' tk' F' N' l1'; k_lt l1'))
local macro_rules | `(tactic| walk_at "compareOp NotEq ref ref") => `(tactic| (((have h9 : Mine.Ph 8 := by with_reducible assumption); clear h9); k_here; (with_reducible show wpAny _ _ (compareOp CmpOp.NotEq (Value.ref _) (Value.ref _)) _ _ _); k_dflt (refine' pair_same ?N ?m ?m2 ?h1 ?h2 ?u ?_; (case N => k_asm); (case m => k_mem); (case m2 => k_mem); (case h1 => first | exact ov_none | exact ⟨_, rfl⟩); (case h2 => first | exact ov_none | exact ⟨_, rfl⟩); (case u => k_units))))
local macro_rules | `(tactic| walk_at "exec Assign") => `(tactic| (((have h9 : Mine.Ph 8 := by with_reducible assumption); clear h9); (with_reducible show wpAny _ _ (exec (Stmt.Assign [Expr.Name (Str.ofString "turned") _] _ _) _) _ _ _); refine Stop.intro ?_))
local macro_rules | `(tactic| walk_at "call ref") => `(tactic| (((have h9 : Mine.Ph 9 := by with_reducible assumption); clear h9); (with_reducible show wpAny _ _ (call (Value.ref 135) [Value.ref _, Value.int _ _]) _ _ _); k_dflt (refine' take_ok ?B ?F ?X ?N ?T ?hk ?hi ?hl ?h0 ?h1 ?hw ?hw2 ?hd ?hu ?hne ?off ?_; (case B => k_asm); (case F => k_asm); (case X => k_asm); (case N => first | k_asm | exact news_swap3 (by k_asm)); (case T => k_asm); (case hk => exact rfl); (case hi => assumption); (case hl => omega); (case h0 => assumption); (case h1 => assumption); (case hw => decide); (case hw2 => decide); (case hd => k_room); (case hu => k_units); (case hne => k_ne); (case off => (repeat' (first | exact List.forall_mem_nil _ | refine List.forall_mem_cons.mpr ⟨And.intro ?_ ?_, ?_⟩ | k_ne)))); intro r' t' h' tk' xs' ns' st' t'' n' k' hr0' hr1' hi' hl' hs0' hs1' F' N'))
local macro_rules | `(tactic| walk_at "subscriptTail") => `(tactic| (((have h9 : Mine.Ph 9 := by with_reducible assumption); clear h9); k_here; (with_reducible show wpAny _ _ (subscriptTail _ _ (Value.ref _) (Value.int _ _)) _ _ _); k_dflt (refine' rows_sub ?N ?m ?a ?b ?_; (case N => k_asm); (case m => k_mem); (case a => assumption); (case b => assumption))))
local macro_rules | `(tactic| walk_at "subscriptTail") => `(tactic| (((have h9 : Mine.Ph 9 := by with_reducible assumption); clear h9); k_here; (with_reducible show wpAny _ _ (subscriptTail _ _ (Value.ref (_ + _)) (Value.int _ _)) _ _ _); first | refine row_sub0 (i := _) (by assumption) (by k_asm) (by k_asm) (by assumption) ?_ | refine row_sub1 (i := _) (by assumption) (by k_asm) (by k_asm) (by assumption) ?_))
local macro_rules | `(tactic| walk_at "eval Name") => `(tactic| (((have h9 : Mine.Ph 9 := by with_reducible assumption); clear h9); k_here; (with_reducible show wpAny _ _ (eval (Expr.Name (Str.ofString "box") _) _) _ _ _); k_dflt (refine' nameX_L ?F ?v ?_ ?a ?b; (case F => k_asm); (case a => rfl); (case b => rfl); (case v => with_unfolding_all assumption))))
local macro_rules | `(tactic| walk_at "binaryOp Add bytes bytes") => `(tactic| (((have h9 : Mine.Ph 9 := by with_reducible assumption); clear h9); k_here; (with_reducible show wpAny _ _ (binaryOp Operator.Add (Value.bytes _ _) (Value.bytes _ _)) _ _ _); k_dflt (refine' KBy.add_bytes ?z ?_; (case z => (simp only [List.size_toArray, List.length_cons, List.length_nil]; omega))); intro t' k'))
local macro_rules | `(tactic| walk_at "exec Assign cons ListComp") => `(tactic| (((have h9 : Mine.Ph 9 := by with_reducible assumption); clear h9); refine Stop.intro ?_))
local macro_rules | `(tactic| walk_at "call ref") => `(tactic| (((have h9 : Mine.Ph 10 := by with_reducible assumption); clear h9); k_here; (with_reducible show wpAny _ _ (call (Value.ref 128) [Value.bytes _ _, Value.bytes _ _]) _ _ _); k_dflt (refine' match_ok' ?R ?B ?F ?X ?N ?T ?hk ?hd ?hu ?e1 ?e2 ?_; (case R => assumption); (case B => k_asm); (case F => k_asm); (case X => k_asm); (case N => k_asm); (case T => k_asm); (case hk => exact rfl); (case hd => k_room); (case hu => k_units); (case e1 => assumption); (case e2 => assumption)); intro q' t1' t2' h' tk' F' N' l1'; k_lt l1'))
local macro_rules | `(tactic| walk_at "compareOp NotEq ref ref") => `(tactic| (((have h9 : Mine.Ph 10 := by with_reducible assumption); clear h9); k_here; (with_reducible show wpAny _ _ (compareOp CmpOp.NotEq (Value.ref _) (Value.ref _)) _ _ _); k_dflt (refine' pair_same ?N ?m ?m2 ?h1 ?h2 ?u ?_; (case N => k_asm); (case m => k_mem); (case m2 => k_mem); (case h1 => first | exact ov_none | exact ⟨_, rfl⟩); (case h2 => first | exact ov_none | exact ⟨_, rfl⟩); (case u => k_units))))
local macro_rules | `(tactic| walk_at "binaryOp Add bytes bytes") => `(tactic| (((have h9 : Mine.Ph 10 := by with_reducible assumption); clear h9); k_here; (with_reducible show wpAny _ _ (binaryOp Operator.Add (Value.bytes _ _) (Value.bytes _ _)) _ _ _); k_dflt (refine' KBy.add_bytes ?z ?_; (case z => (simp only [List.size_toArray, List.length_cons, List.length_nil]; omega))); intro t' k'))
local macro_rules | `(tactic| walk_at "getMethod bytes") => `(tactic| (((have h9 : Mine.Ph 10 := by with_reducible assumption); clear h9); k_here; (with_reducible show wpAny _ _ (getMethod (Value.bytes _ _) (Str.ofString "upper") _) _ _ _); refine get_upper ?_))
local macro_rules | `(tactic| walk_at "call builtin:bytes.upper") => `(tactic| (((have h9 : Mine.Ph 10 := by with_reducible assumption); clear h9); k_here; (with_reducible show wpAny _ _ (call (Value.builtin "bytes.upper") [Value.bytes _ _]) _ _ _); k_dflt (refine' call_upper ?z ?_; (case z => omega)); intro t' k'))
local macro_rules | `(tactic| walk_at "compareOp NotEq bytes bytes") => `(tactic| (((have h9 : Mine.Ph 10 := by with_reducible assumption); clear h9); k_here; (with_reducible show wpAny _ _ (compareOp CmpOp.NotEq (Value.bytes _ _) (Value.bytes _ _)) _ _ _); k_dflt (refine' ne_upper ?z ?_; (case z => assumption))))
local macro_rules | `(tactic| walk_at "UnrEnd") => `(tactic| (((have h9 : Mine.Ph 10 := by with_reducible assumption); clear h9); refine Stop.intro ?_))
set_option maxRecDepth 100000 in
set_option maxHeartbeats 8000000 in
theorem PySem.Challenge.cw_no0066_01_holds : PySem.Challenge.rw_no0066_01.Holds := by
  refine Mine.hd ?_
  (k_with "pyIter ref" => k_state (fun pre s => 0 ≤ s ∧ s < 2147483647) "stirred")
  w_strict (k_go0; (all_goals try k_fold); (have ph : Mine.Ph 1 := ⟨⟩); k_steps)
  clear ph
  have ph : Mine.Ph 2 := ⟨⟩
  w_top off
  refine Stop.elim ?_
  k_steps
  refine Stop.elim ?_
  (k_dflt (refine LCg.ListComp_U (F₀ := by k_asm) (by with_unfolding_all rfl) (by decide) (by rfl) (by decide) (by rfl) ?_))
  k_steps
  refine Stop.elim ?_
  with_unfolding_all refine CompSrc.range (n := 99) rfl (by k_asm) (by k_asm) (by assumption) (by rfl) (by rfl) (by decide) (fun g => ?_)
  refine rest_ind (fun i => .ref (15 + i)) ?_ trivial ?_
  · intro i v I oI C oC D oD m₂ h tk E' hi hP hC hx F9 N9 off
    obtain ⟨t9, rfl⟩ := hP
    k_steps
    · rw [show ((0 : Int) + (i : Int)).toNat = i by omega]
    · k_asm
    · k_asm
  k_steps
  clear ph
  have ph : Mine.Ph 3 := ⟨⟩
  w_top off
  refine Stop.elim ?_
  obtain ⟨nm, hnm⟩ : ∃ x, x = nmT := ⟨_, rfl⟩
  obtain ⟨vl, hvl⟩ : ∃ x, x = vlT := ⟨_, rfl⟩
  obtain ⟨tkn, htkn⟩ : ∃ x, x = tknT := ⟨_, rfl⟩
  obtain ⟨tkv, htkv⟩ : ∃ x, x = tkvT := ⟨_, rfl⟩
  rename World => w
  have R := tab_is w.params
  rw [← hnm, ← hvl, ← htkn, ← htkv] at R
  k_steps
  refine Stop.elim ?_
  (k_dflt (refine ListComp_tup (by k_asm) (by with_unfolding_all rfl) (by decide) (by rfl) (by decide) (by rfl) ?_))
  k_steps
  refine Stop.elim ?_
  with_unfolding_all refine TupSrc.intro (n := 0) rfl (by k_asm) (by k_asm) (by k_mem) (by show 4 ≤ sizeLine; decide) (fun g => ?_)
  refine rest_ind (fun _ => .none) ?_ (by k_mem) ?_
  · intro i v I oI C oC D oD m₂ h tk E' hi hP hC hx F9 N9 off
    have hv : ∃ (a : Int) (t : Tok), v = .int a t ∧ (a < 0 ∨ 99 ≤ a) := by
      match i, hi with
      | 0, _ => exact ⟨99, _, (Option.some.inj hP).symm, .inr (by decide)⟩
      | 1, _ => exact ⟨100, _, (Option.some.inj hP).symm, .inr (by decide)⟩
      | 2, _ => exact ⟨-1, _, (Option.some.inj hP).symm, .inl (by decide)⟩
      | 3, _ => exact ⟨_, _, (Option.some.inj hP).symm, .inr (by omega)⟩
    clear hP
    obtain ⟨a, t9, rfl, ha⟩ := hv
    k_steps
    all_goals k_asm
  k_steps
  clear ph
  have ph : Mine.Ph 4 := ⟨⟩
  w_top off
  refine Stop.elim ?_
  rename News _ _ _ _ => N0
  rename Fr _ _ _ _ => F0
  obtain ⟨m₀, hbox, F1⟩ := pack_m F0 rfl
  have N1 := news_pick N0 [11, 10, 6, 4, 5, 12, 9] (rfl : _ = [_, _, _, _, _, _, _])
  clear F0 N0
  with_unfolding_all refine For_turns F1 ?_
  k_steps
  refine Stop.elim ?_
  rename KnownAt _ _ _ _ => hK
  rename (∀ p ∈ _, ∀ q ∈ _, _ < _) => hlt
  rename News _ _ _ _ => N2
  obtain ⟨vs, nk, hkm, hrows⟩ := hK
  replace N2 := news_comm N2
  dsimp only [List.cons_append, List.nil_append] at N2
  with_unfolding_all refine iter_listTurns (n := nk) (vs := vs) rfl (by k_asm) N2 (by repeat (first | exact hkm | apply List.Mem.tail)) rfl rfl (fun I hI => ?_)
  refine items_inv (J := KJ m₀ _ _ _) ?keepJ4 ?done4 _ ?step4 _ _ (KJ.start (by assumption) (by assumption))
  case keepJ4 =>
    rintro m n ⟨u, o2, o3, v2, v3, _, _, _, rfl⟩
    exact ⟨by repeat (first | exact hkm | apply List.Mem.tail), trivial⟩
  case step4 =>
    intro a ha m news v h tk hJ hav F
    obtain ⟨v', hv', rfl⟩ := List.mem_map.mp ha
    have e9 : v = v' := hav
    subst e9
    obtain ⟨T9, i, ba, bb, ti, ta, tb, rfl, hT, hi0, hi1, hna, hvb⟩ := hrows _ hv'
    obtain ⟨u, o2, o3, v2, v3, rfl, hd2, hd3, rfl⟩ := hJ
    refine AllObj.cons fun oI hoI => AllObj.nil fun N => ?_
    have oA := fun p hp => Nat.ne_of_gt (hlt p hp _ (.head _))
    have oB := fun p hp => Nat.ne_of_gt (hlt p hp _ (.tail _ (.head _)))
    k_lt hI
    dsimp only [List.cons_append, List.nil_append] at N
    clear F1 N1 N2 hlt
    k_steps
    refine Stop.elim ?_
    rename Fr _ _ _ _ => F9
    rename News _ _ _ _ => N9
    exact unrEnd_one F9 (fun p hp => N9 p (.tail _ hp)) hI (KJ.next (by assumption) (by assumption))
  clear F1 N1 N2
  rintro m news h tk ⟨u, o2, o3, v2, v3, rfl, hd2, hd3, rfl⟩ F N
  clear ph
  have ph : Mine.Ph 5 := ⟨⟩
  w_top off
  replace N := news_pick N [3, 4, 2, 5, 0, 1, 6] (rfl : _ = [_, _, _, _, _, _, _])
  obtain ⟨m₁, hm₁⟩ : ∃ m₁, m₁ = (fun y => if y = Str.ofString "index" then u else m₀ y) := ⟨_, rfl⟩
  have hbox1 := box_keep hm₁ hbox
  rw [← hm₁] at F
  clear hm₁
  k_steps
  refine Stop.elim ?_
  rename News _ _ _ _ => N9
  with_reducible rename (_ ∧ _ ∧ _ ∧ _ ∧ _ ∧ _ ∧ _) => hI
  have hpw := pw_of N9 (by repeat (first | exact trivial | k_ne | refine And.intro ?_ ?_))
  clear N9
  refine range_inv (J := TJ m₁ _ _ _ _ _ _ _) ?step5 ?done5 _ _ _ _ (TJ.start (by assumption) (by assumption) (by assumption) (by assumption) (by assumption) (by assumption) (by assumption) (by assumption))
  case done5 =>
    intro m news h tk hJ F N
    obtain ⟨u1, u2, u3, u4, st, t, n, xs, ns, k, nr, o1, o2, o3, o4, v2, v3, v4, rfl, hi, hl, h0, h1, d1, d2, d3, d4, rfl⟩ := hJ
    k_steps
  intro i t m news it h tk hJ F N
  obtain ⟨u1, u2, u3, u4, st, ts, n, xs, ns, k, nr, o1, o2, o3, o4, v2, v3, v4, rfl, hi, hl, h0, h1, d1, d2, d3, d4, rfl⟩ := hJ
  simp only [PwNe, PwNe.AllNe, and_true] at hpw
  have Fa : Facts nm vl := by
    rw [hnm, hvl]
    exact facts_is
  rename_i z1 z2 z3 z4 z5 z6 z7 z8 z9 z10 z11 z12 z13 z14 z15 z16 z17 z18 z19 z20 z21 z22 z23 z24 z25 z26 z27 z28 z29 z30 z31 z32 z33 z34 z35 z36 z37 z38 z39 z40 z41 z42 z43 z44 z45 z46 z47 z48 z49 z50 z51 z52 z53 z54 z55 z56 z57 z58 z59 z60 z61 z62 z63 z64 z65 z66 z67 z68 z69 z70 z71 z72 z73 z74 z75 z76 z77 z78 z79 z80 z81 z82 z83 z84 z85 z86 z87 z88 z89 z90 z91 z92 z93 z94 z95 z96 z97 z98 z99 z100 z101 z102 z103 z104 z105 z106 z107 z108 z109 z110 z111 z112 z113 z114 z115 z116 z117 z118 z119 z120 z121 z122 z123 z124 z125 z126 z127 z128 z129 z130 z131 z132 z133 z134 z135 z136 z137 z138 z139 z140 z141 z142 z143 z144 z145 z146 z147 z148 z149 z150 z151 z152 z153 z154 z155 z156 z157 z158 z159 z160 z161 z162 z163 z164 z165 z166 z167 z168 z169 z170 z171 z172
  clear_value z61 z62
  (try clear z172); (try clear z171); (try clear z170); (try clear z169); (try clear z168); (try clear z167); (try clear z166); (try clear z165); (try clear z164); (try clear z163); (try clear z162); (try clear z161); (try clear z160); (try clear z159); (try clear z158); (try clear z157); (try clear z156); (try clear z155); (try clear z154); (try clear z153); (try clear z152); (try clear z151); (try clear z150); (try clear z149); (try clear z148); (try clear z147); (try clear z146); (try clear z145); (try clear z144); (try clear z143); (try clear z142); (try clear z141); (try clear z140); (try clear z139); (try clear z138); (try clear z137); (try clear z136); (try clear z135); (try clear z134); (try clear z133); (try clear z132); (try clear z131); (try clear z130); (try clear z129); (try clear z128); (try clear z127); (try clear z126); (try clear z125); (try clear z124); (try clear z123); (try clear z122); (try clear z121); (try clear z120); (try clear z119); (try clear z118); (try clear z117); (try clear z116); (try clear z115); (try clear z114); (try clear z113); (try clear z112); (try clear z111); (try clear z110); (try clear z109); (try clear z108); (try clear z107); (try clear z106); (try clear z105); (try clear z104); (try clear z102); (try clear z101); (try clear z100); (try clear z99); (try clear z98); (try clear z97); (try clear z96); (try clear z95); (try clear z94); (try clear z93); (try clear z92); (try clear z91); (try clear z90); (try clear z89); (try clear z88); (try clear z87); (try clear z86); (try clear z85); (try clear z84); (try clear z83); (try clear z82); (try clear z81); (try clear z80); (try clear z79); (try clear z78); (try clear z77); (try clear z76); (try clear z75); (try clear z74); (try clear z73); (try clear z72); (try clear z71); (try clear z70); (try clear z69); (try clear z68); (try clear z67); (try clear z66); (try clear z65); (try clear z64); (try clear z63); (try clear z62); (try clear z61); (try clear z60); (try clear z59); (try clear z58); (try clear z57); (try clear z56); (try clear z55); (try clear z54); (try clear z53); (try clear z52); (try clear z51); (try clear z50); (try clear z49); (try clear z48); (try clear z47); (try clear z45); (try clear z44); (try clear z43); (try clear z42); (try clear z41); (try clear z40); (try clear z39); (try clear z38); (try clear z37); (try clear z36); (try clear z35); (try clear z34); (try clear z33); (try clear z32); (try clear z31); (try clear z30); (try clear z29); (try clear z28); (try clear z27); (try clear z26); (try clear z25); (try clear z24); (try clear z23); (try clear z22); (try clear z21); (try clear z20); (try clear z19); (try clear z18); (try clear z16); (try clear z15); (try clear z14); (try clear z13); (try clear z12); (try clear z11); (try clear z10); (try clear z9); (try clear z8); (try clear z7); (try clear z6); (try clear z5); (try clear z4); (try clear z3); (try clear z2); (try clear z1)
  (try clear hrows); (try clear hkm); (try clear nk); (try clear hlt); (try clear vs); (try clear hd2); (try clear hd3); (try clear hbox); (try clear u); (try clear m₀); (try clear I); (try clear hnm); (try clear hvl); (try clear htkn); (try clear htkv); (try clear lifted); (try clear ek); (try clear qk); (try clear kLen); (try clear kFacts); (try clear kMark); (try clear kTk); (try clear kH); (try clear kU); (try clear g)
  clear ph
  have ph : Mine.Ph 6 := ⟨⟩
  w_top off
  k_steps
  refine Stop.elim ?_
  rename_i r tr hA tkA xs2 ns2 st2 ts2 n2 k2 hr0 hr1 hi2 hl2 hs0 hs1 hB hC o2' d2' hD o3' F9 N9 d3'
  obtain ⟨κ, hκ⟩ : ∃ κ, r.toNat = κ := ⟨_, rfl⟩
  have hκ9 : κ < 99 := by omega
  rw [hκ] at d2' d3'
  clear hκ hr0 hr1 hi hl h0 h1 d2 d3 N F
  refine Assign_spots (T := fun j => (nm j).toList == (nm κ).toList) (l := z114) (items := rowsL.toArray) (n := nr) F9 N9 rfl rfl (by with_unfolding_all rfl) (by with_unfolding_all rfl) (by decide) (by rfl) (by decide) (by rfl) (by rfl) (by decide) (by decide) (by rfl) (by rfl) (by k_mem) (by rw [rowsL_size]; decide) ?src6 ?test6 ?done6
  case src6 =>
    k_steps
    refine Stop.elim ?_
    exact call_enum_at ⟨_, _, rfl⟩ (by k_asm) (by k_asm) (by k_mem)
  case test6 =>
    intro i x t C oC m₂ h tk E' hx hC ha hb F N
    obtain ⟨hi9, rfl⟩ := rowsL_get hx
    k_steps
  intro D hF tkF ys F N hlt hys
  rw [rowsL_size] at hys
  clear F9 N9
  clear ph
  have ph : Mine.Ph 7 := ⟨⟩
  w_top off
  obtain ⟨f, frest, hspot, hfx⟩ := spots_cons nm hκ9
  have hex := exact_is Fa hκ9
  have hix : ixU nm vl (nm κ).toList (vl κ).toList 99 = some κ := by rw [ixU_head, hex]; rfl
  have hD := allLt_of hlt
  simp only [AllLt, and_true] at hD
  clear hlt
  k_steps
  refine Stop.elim ?_
  refine Assign_sift (T := fun k => (vl k.toNat).toList == (vl κ).toList) (l := D) (vs := ys) (ns := spotsTo (fun j => (nm j).toList == (nm κ).toList) 99) F N rfl rfl (by with_unfolding_all rfl) (by with_unfolding_all rfl) (by decide) (by rfl) (by decide) (by rfl) (by decide) (by rfl) (by rfl) (by k_mem) hys (Nat.le_trans (spotsTo_len _ _) (by decide)) ?src7 ?test7 ?done7
  case src7 =>
    intro Q9 hQ9
    k_steps
    exact hQ9
  case test7 =>
    intro k9 t9 C oC m₂ h9 tk9 E' hk9 hC ha F9 N9
    obtain ⟨hk0, hk1, hk2⟩ := spotsTo_mem hk9
    k_steps
  intro D2 hG tkG ys2 F2 N2 hlt2 hys2
  have e9 := sift_is (fun j => (nm j).toList == (nm κ).toList) (fun j => (vl j).toList == (vl κ).toList)
  rw [hex] at e9
  rw [e9] at hys2
  clear e9
  obtain ⟨te, rfl⟩ := intsAre_one (n := (κ : Int)) hys2
  clear F N hys2
  k_steps
  clear ph
  have ph : Mine.Ph 8 := ⟨⟩
  w_top off
  refine Stop.elim ?_
  have hsp2 : spotsTo (fun j => (nm j).toList == (nm κ).toList) 99 = (f : Int) :: frest.map (fun (j : Nat) => (j : Int)) := by
    unfold spotsTo
    rw [hspot]
    rfl
  have hys1 := hys
  rw [hsp2] at hys1
  obtain ⟨tf, yr, rfl, hyr⟩ := intsAre_cons hys1
  clear hys1
  have hD2 := allNe_of hlt2
  simp only [PwNe.AllNe, and_true] at hD2
  clear hlt2
  k_steps
  refine Stop.elim ?_
  rename Fr _ _ _ _ => F3
  rename News _ _ _ _ => N3
  replace N3 := news_pick N3 [4, 5, 6, 7, 8, 9, 10, 11, 3] (rfl : _ = [_, _, _, _, _, _, _, _, _])
  have hsz1 := (Fa.size κ hκ9).1
  have hsz2 := (Fa.size κ hκ9).2
  clear ph
  have ph : Mine.Ph 9 := ⟨⟩
  w_top off
  k_steps
  refine Stop.elim ?_
  rename Fr _ _ _ _ => F4
  rename News _ _ _ _ => N4
  rename (_ = Data.cell (some (Value.bytes (vl κ ++ _) _))) => d4'
  obtain ⟨tv, ttv, d4⟩ := pack_tv d4'
  clear d4'
  replace N4 := news_pick N4 [1, 2, 3, 4, 5, 6, 7, 8, 9] (rfl : _ = [_, _, _, _, _, _, _, _, _])
  refine Assign_sift (T := fun k => (vl k.toNat).toList == tv.toList) (l := D) (vs := .int (f : Int) tf :: yr) (ns := spotsTo (fun j => (nm j).toList == (nm κ).toList) 99) F4 N4 rfl rfl (by with_unfolding_all rfl) (by with_unfolding_all rfl) (by decide) (by rfl) (by decide) (by rfl) (by decide) (by rfl) (by rfl) (by k_mem) hys (Nat.le_trans (spotsTo_len _ _) (by decide)) ?src9 ?test9 ?done9
  case src9 =>
    intro Q9 hQ9
    k_steps
    exact hQ9
  case test9 =>
    intro k9 t9 C oC m₂ h9 tk9 E' hk9 hC ha F9 N9
    obtain ⟨hk0, hk1, hk2⟩ := spotsTo_mem hk9
    k_steps
  intro D3 hH tkH ys3 F5 N5 hlt3 hys3
  have e9 := sift_is (fun j => (nm j).toList == (nm κ).toList) (fun j => (vl j).toList == tv.toList)
  rw [e9] at hys3
  clear e9
  have hix2 := ixU_head nm vl (nm κ).toList tv.toList
  have hD3 := allNe_of hlt3
  simp only [PwNe.AllNe, and_true] at hD3
  clear hlt3 F4 N4
  clear ph
  have ph : Mine.Ph 10 := ⟨⟩
  w_top off
  have hfxb : fxU nm (nm κ ++ [33].toArray).toList 99 = none := by simpa using Fa.bang κ hκ9
  have hixb : ixU nm vl (nm κ ++ [33].toArray).toList (vl κ).toList 99 = none := ixU_none _ hfxb
  have hfxu : fxU nm (upL (nm κ).toList).toArray.toList 99 = none := by simpa using Fa.up κ hκ9
  have hixu : ixU nm vl (upL (nm κ).toList).toArray.toList (vl κ).toList 99 = none := ixU_none _ hfxu
  have hne : (nm κ).toList ≠ (upL (nm κ).toList).toArray.toList := by simpa using Fa.upne κ hκ9
  cases hdue : (((List.range 99).filter fun j => (nm j).toList == (nm κ).toList).filter fun j => (vl j).toList == tv.toList) with
  | nil =>
    rw [hdue] at hys3 hix2
    have e9 := intsAre_nil hys3
    subst e9
    replace hix2 : ixU nm vl (nm κ).toList tv.toList 99 = none := hix2
    k_steps
    refine Stop.elim ?_
    rename Fr _ _ _ _ => F6
    rename News _ _ _ _ => N6
    replace N6 := news_pick N6 [10, 8, 9, 11, 12, 13, 14, 15] (rfl : _ = [_, _, _, _, _, _, _, _])
    exact unrEndR F6 N6 (by simp only [AllLt, and_true]; exact hI) (TJ.next (by assumption) (by assumption) (by assumption) (by assumption) (by assumption) (by assumption) (by assumption) (by assumption))
  | cons j l =>
    rw [hdue] at hys3 hix2
    obtain ⟨tj, yr3, rfl, hyr3⟩ := intsAre_cons hys3
    replace hix2 : ixU nm vl (nm κ).toList tv.toList 99 = some j := hix2
    k_steps
    · rename decide _ = true => hz
      simp at hz
    refine Stop.elim ?_
    rename Fr _ _ _ _ => F6
    rename News _ _ _ _ => N6
    replace N6 := news_pick N6 [10, 8, 9, 11, 12, 13, 14, 15] (rfl : _ = [_, _, _, _, _, _, _, _])
    exact unrEndR F6 N6 (by simp only [AllLt, and_true]; exact hI) (TJ.next (by assumption) (by assumption) (by assumption) (by assumption) (by assumption) (by assumption) (by assumption) (by assumption))
