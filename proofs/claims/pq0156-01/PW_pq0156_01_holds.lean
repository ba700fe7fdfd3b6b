import PyProof.Rows.All
import Wide.All
import OpenK.AllK
import Wide.FinOn
import PySem.Challenge.RW_pq0156_01
set_option Elab.async false
set_option compiler.extract_closed false

-- part Hd
section
open PySem PySem.W PyProof.Rows
set_option maxRecDepth 100000
set_option maxHeartbeats 8000000
namespace Mine
open_top hd for PySem.Challenge.rw_pq0156_01
end Mine
end

section
local macro_rules | `(tactic| walk_at $s:str) => `(tactic| k_extra $s)
local macro_rules | `(tactic| k_room) => `(tactic| k_extra "mine k_room")
local macro_rules | `(tactic| k_all) => `(tactic| k_extra "mine k_all")
local macro_rules | `(tactic| k_ne) => `(tactic| k_extra "mine k_ne")
local macro_rules | `(tactic| x_close) => `(tactic| k_extra "mine x_close")

-- part M0
section
open PySem PySem.W PySem.Calls PyProof.Rows
set_option maxRecDepth 100000
set_option maxHeartbeats 8000000
namespace Mine

section
variable {prog : Program} {w : World} {K : Type} [DecidableEq K] {knd : KeyKind prog w K} {A : Around} {E : Value → Shared → Prop} {s : Shared} {h₀ : Heap} {L d : Addr} {m : Str → Option Value} {news rest : List (Addr × Obj)} {o : Obj} {kvs : List (K × Value)} {k : K} {key v : Value}

theorem item_dict {value slice : PySem.Expr} {Q : Value → Shared → Prop} (N : News h₀ L s.heap news) (hm : (d, o) ∈ news) (hd : o.IsDictOf knd kvs) (hkey : knd.is k key = true)
    (hv : valueAt kvs k = some v) (h : Q v { s with toks := s.toks + 1 })
    (hs : subscripted slice false (.ref d) key = operate [.ref d, key] (getItem (.ref d) key)) (hg : ∀ r, letTemporaryGo value (.ref d) r = pure ()) :
    wpAny (model prog w) A (subscriptTail value slice (.ref d) key) Q E s := by
  have hd' : s.heap.DictOf knd d kvs := Heap.dictOf_iff.mpr ⟨o, N.get hm, hd⟩
  exact subscriptTail_builtin hd'.typeIs slot_dict_getitem.lookup (wpAny_getItem_of hkey hd'.mapOf hv h) hs hg

theorem set_dict {Q : Unit → Shared → Prop} (F : Fr h₀ L s.heap m) (N : News h₀ L s.heap ((d, o) :: rest)) (hr : ∀ p ∈ rest, p.1 ≠ d) (hd : o.IsDictOf knd kvs) (hkey : knd.is k key = true)
    (hsz : kvs.length ≤ sizeLine)
    (h : ∀ h' o', Fr h₀ L h' m → News h₀ L h' ((d, o') :: rest) → o'.IsDictOf knd (stored kvs k v) → Q () { s with heap := h', toks := s.toks + 1 }) :
    wpAny (model prog w) A (setItem (.ref d) key v) Q E s := by
  have hm := N (d, o) (.head _)
  refine wpAny_setItem_pairs (hsz := hsz) hkey (Heap.dictOf_iff.mpr ⟨o, hm.1, hd⟩) fun h' hmm hs => ?_
  obtain ⟨o', ho', hd'⟩ := Heap.dictOf_iff.mp hmm
  have N' := N.setIn (own := []) (fun _ hp => nomatch hp) hr hs ho'
  exact h h' o' (F.change hs hm.2.1 hm.2.2) N' hd'
end

end Mine
end

-- part M1
section
open PySem PySem.W PySem.Calls PyProof.Rows
set_option maxRecDepth 100000
set_option maxHeartbeats 8000000
namespace Mine

/-- a def's scope -/
abbrev fsc (nm : List (Str × NameKind)) (ig ic : Bool) (mo : List (Str × Const)) : Scope := { kind := .function, names := nm, isGenerator := ig, isCoroutine := ic, more := mo }

/-- the strip's dict: the list of the script's ints under "row", the place under "at" -/
def IsStrip (w : World) (o : Obj) (rl : Addr) (k : Int) : Prop :=
  ∃ t, o.IsDictOf (strKind PySem.Challenge.rw_pq0156_01.row.toRowW.prog w) [(Str.ofString "row", .ref rl), (Str.ofString "at", .int k t)]

/-- the list of the script's ints -/
structure IsRow (ol : Obj) (ns : List Int) : Prop where
  ex : ∃ vs n, ol = PySem.W.listOf (List.toArray vs) n ∧ IntsAre vs ns
  len : ns.length < 1000

section
variable {w : World} {p : Program} {loose : List Str} {mean : ExcName → Option Value} {mg mb : Str → Option Value}
  {dp un : Nat} {gd : Option (List Code)} {cn : Str} {nm : List (Str × NameKind)} {ig ic : Bool} {mo : List (Str × Const)} {a : Addr} {ccd : Value} {cl : List (Str × Addr)} {outer : List Env} {A₀ : Around} {base h₀ : Heap} {L : Addr} {m : Str → Option Value} {s : Shared} {Q E : Value → Shared → Prop}
  {news rest : List (Addr × Obj)} {g : Obj → List (Addr × Obj)}

theorem afresh_M1 : True := by
  w_top off
  k_with_none
  trivial
theorem lines1_M1 : True := by
  k_with "mine k_all" => (assumption)
  k_with "mine k_room" => (ktr_room)
  k_with "subscriptTail" => (((with_reducible show wpAny _ _ (subscriptTail _ _ (Value.ref _) (Value.str _ _)) _ _ _); with_unfolding_all refine' item_dict ?z3k1 ?z3k2 ?z3k3 ?z3k4 ?z3k5 ?_ ?z3k6 ?z3k7; (case z3k1 => assumption); (case z3k2 => k_mem); (case z3k3 => assumption); (case z3k4 => exact strKind_is _ _ _ _); (case z3k5 => rfl); (case z3k6 => with_unfolding_all rfl); (case z3k7 => intro _; with_unfolding_all rfl)))
  trivial

theorem pick_spec {sd rl : Addr} {k : Int} {tm : Tok} {many : Int} {vs : List Value} {ns : List Int} {n : Nat} {o : Obj}
    (B : Below A₀ base outer h₀) (F : Fr h₀ L s.heap m) (X : (hd.heap_39 w.params).In h₀) (N : News h₀ L s.heap ((sd, o) :: (rl, PySem.W.listOf vs.toArray n) :: rest)) (T : Top p loose mean mg mb h₀)
    (hrest : ∀ p ∈ ((rl, PySem.W.listOf vs.toArray n) :: rest), p.1 ≠ sd) (ho : IsStrip w o rl k)
    (hI : IntsAre vs ns) (hdp : dp + 1 < recursionLimit) (hk0 : 0 ≤ k) (hk1 : k < 1000) (hm0 : 0 < many) (hm1 : many < 100) (hlen : ns.length < 1000)
    (hret : ∀ (v : Int) (t : Tok) h' tk' o', 0 ≤ v → v < many → IsStrip w o' rl (k + 1) → Fr h₀ L h' m → News h₀ L h' ((sd, o') :: (rl, PySem.W.listOf vs.toArray n) :: rest) → Q (.int v t) { s with heap := h', toks := tk' }) :
    wpAny (model PySem.Challenge.rw_pq0156_01.row.toRowW.prog w) (ktrTop dp un gd cn (fsc nm ig ic mo) L a ccd cl outer) (call (.ref 65) [.ref sd, .int many tm]) Q E s := by
  revert X; k_fill; intro X
  obtain ⟨t3, ho⟩ := ho
  refine wpAny_call ?_
  k_dflt k_enter
  k_steps
  all_goals (refine hret _ _ _ _ _ ?_ ?_ ⟨_, by assumption⟩ (by assumption) (by assumption))
  all_goals first
    | exact fmod_lo _ hm0
    | exact fmod_hi _ hm0

theorem IsStrip.ne {sd rl : Addr} {o ol : Obj} {k : Int} {ns : List Int} (ho : IsStrip w o rl k) (hl : IsRow ol ns) (N : News h₀ L s.heap news) (h1 : (sd, o) ∈ news) (h2 : (rl, ol) ∈ news) : rl ≠ sd := by
  rintro rfl
  obtain ⟨t, es, ep, hx, _⟩ := ho
  obtain ⟨vs, n, rfl, _⟩ := hl.ex
  have := (N.get h1).symm.trans (N.get h2)
  cases this
  have e := hx.1
  simp at e

theorem pick_at {sd rl : Addr} {k : Int} {tm : Tok} {many : Int} {ns : List Int} {o ol : Obj}
    (B : Below A₀ base outer h₀) (F : Fr h₀ L s.heap m) (X : (hd.heap_39 w.params).In h₀) (N : News h₀ L s.heap news) (T : Top p loose mean mg mb h₀)
    (U : UpdF sd o news g) (hrl : (rl, ol) ∈ news) (ho : IsStrip w o rl k) (hol : IsRow ol ns)
    (hdp : dp + 1 < recursionLimit) (hk0 : 0 ≤ k) (hk1 : k < 1000) (hm0 : 0 < many) (hm1 : many < 100)
    (hret : ∀ (v : Int) (t : Tok) h' tk' o', 0 ≤ v → v < many → IsStrip w o' rl (k + 1) → Fr h₀ L h' m → News h₀ L h' (g o') → Q (.int v t) { s with heap := h', toks := tk' }) :
    wpAny (model PySem.Challenge.rw_pq0156_01.row.toRowW.prog w) (ktrTop dp un gd cn (fsc nm ig ic mo) L a ccd cl outer) (call (.ref 65) [.ref sd, .int many tm]) Q E s := by
  obtain ⟨pre, post, rfl, hg, h1, h2⟩ := U.split
  have hsd : (sd, o) ∈ pre ++ (sd, o) :: post := List.mem_append_right _ (.head _)
  have hne := ho.ne hol N hsd hrl
  obtain ⟨vs, n, rfl, hI⟩ := hol.ex
  have hrl' : (rl, PySem.W.listOf vs.toArray n) ∈ pre ++ post := by
    rcases List.mem_append.mp hrl with q | q
    · exact List.mem_append_left _ q
    · rcases List.mem_cons.mp q with q | q
      · cases q; exact absurd rfl hne
      · exact List.mem_append_right _ q
  refine pick_spec (rest := pre ++ post) (vs := vs) (n := n) B F X (fun p hp => N p ?_) T (fun p hp => ?_) ho hI hdp hk0 hk1 hm0 hm1 hol.len fun v t h' tk' o' a1 a2 a3 a4 a5 => hret v t h' tk' o' a1 a2 a3 a4 (hg o' ▸ fun p hp => a5 p ?_)
  · rcases List.mem_cons.mp hp with rfl | hp
    · exact hsd
    · rcases List.mem_cons.mp hp with rfl | hp
      · exact hrl
      · rcases List.mem_append.mp hp with hp | hp
        · exact List.mem_append_left _ hp
        · exact List.mem_append_right _ (.tail _ hp)
  · rcases List.mem_cons.mp hp with rfl | hp
    · exact hne
    · rcases List.mem_append.mp hp with hp | hp
      · exact h1 p hp
      · exact h2 p hp
  · rcases List.mem_append.mp hp with hp | hp
    · exact .tail _ (.tail _ (List.mem_append_left _ hp))
    · rcases List.mem_cons.mp hp with rfl | hp
      · exact .head _
      · exact .tail _ (.tail _ (List.mem_append_right _ hp))
end
end Mine
end

-- part M2
section
open PySem PySem.W PySem.Calls PyProof.Rows
set_option maxRecDepth 100000
set_option maxHeartbeats 8000000
namespace Mine

/-- no sign of the text is a line's end -/
def NoNl (r : Str) : Prop := ∀ c ∈ r.cps.toList, c ≠ 10

theorem noNl_item (v : Int) (h0 : 0 ≤ v) (h1 : v < 8) : NoNl (Txt.item (Str.ofString " 1206A:5") v) ∧ (Txt.item (Str.ofString " 1206A:5") v).length = 1 := by
  have : v = 0 ∨ v = 1 ∨ v = 2 ∨ v = 3 ∨ v = 4 ∨ v = 5 ∨ v = 6 ∨ v = 7 := by omega
  rcases this with rfl | rfl | rfl | rfl | rfl | rfl | rfl | rfl <;> exact ⟨by unfold NoNl; decide, by decide⟩

theorem str_append_toList (x y : Str) : (x ++ y).cps.toList = x.cps.toList ++ y.cps.toList := by
  rw [← Array.toList_append]; rfl
theorem glue_fold (sep : Str) : ∀ (l : List Str) (acc : Array Nat), (l.foldl (fun acc p => acc ++ sep.cps ++ p.cps) acc).toList = acc.toList ++ l.flatMap fun r => sep.cps.toList ++ r.cps.toList
  | [], acc => by simp
  | x :: r, acc => by rw [List.foldl_cons, glue_fold sep r]; simp
theorem join_toList (sep x : Str) (l : List Str) : (Txt.join sep (x :: l)).cps.toList = x.cps.toList ++ l.flatMap fun r => sep.cps.toList ++ r.cps.toList := glue_fold sep l x.cps
theorem join_nil_sep (l : List Str) : (Txt.join (Str.ofString "") l).cps.toList = l.flatMap fun r => r.cps.toList := by
  cases l with
  | nil => rfl
  | cons x r => rw [join_toList]; simp [show (Str.ofString "").cps.toList = [] from rfl]
theorem noNl_join {l : List Str} (h : ∀ x ∈ l, NoNl x) : NoNl (Txt.join (Str.ofString "") l) := by
  intro c hc
  rw [join_nil_sep] at hc
  obtain ⟨x, hx, hc⟩ := List.mem_flatMap.mp hc
  exact h x hx c hc

section
variable {prog : Program} {w : World} {A : Around} {h₀ : Heap} {L : Addr} {m : Str → Option Value} {env : Env} {elt : PySem.Expr} {x : Str} {scope : Scope} {cl : List (Str × Addr)} {s : Shared} {S : List (Addr × Obj) → Prop} {P : Nat → Value → Prop} {Fin : List Value → List (Addr × Obj) → Prop} {rest : List (Addr × Obj)}

/-- a turn of the row's comprehension: one sign more, one place further -/
def RowTurn (w : World) (c sd rl : Addr) (oc ol : Obj) (rest : List (Addr × Obj)) (k : Int) (y : Value) (news' : List (Addr × Obj)) : Prop :=
  ∃ o' ch t, y = .str ch t ∧ NoNl ch ∧ ch.length = 1 ∧ IsStrip w o' rl (k + 1) ∧ news' = (c, oc) :: (sd, o') :: (rl, ol) :: rest

theorem row_rest {n : Nat} {c rl sd : Addr} {oc ol : Obj} {k₀ : Int}
    (turn : ∀ (k : Int) o I oI C oC D m₂ ys h tk (E' : Value → Shared → Prop), k₀ ≤ k → k < k₀ + n → IsStrip w o rl k → LCg.NsObj oC m₂ → Fr h₀ L h m → News h₀ L h ((I, oI) :: (C, oC) :: (D, LCg.lst ys) :: (c, oc) :: (sd, o) :: (rl, ol) :: rest) →
      LCg.Off3 I C D ((c, oc) :: (sd, o) :: (rl, ol) :: rest) → ((@Ne Nat I C) ∧ (@Ne Nat I D) ∧ (@Ne Nat C D)) →
      wpAny (model prog w) A (eval elt (compEnvC scope cl C env)) (LCg.CompEnd h₀ L m { s with heap := h, toks := tk } I oI C oC D (LCg.lst ys) S (RowTurn w c sd rl oc ol rest k)) E' { s with heap := h, toks := tk })
    (fin : ∀ ys rs o, StrsAre ys rs → rs.length = n → (∀ x ∈ rs, NoNl x ∧ x.length = 1) → IsStrip w o rl (k₀ + n) → Fin ys ((c, oc) :: (sd, o) :: (rl, ol) :: rest))
    {o : Obj} (ho : IsStrip w o rl k₀) : LCg.CompRest prog w A h₀ L m env elt x scope cl s S P Fin n 0 [] ((c, oc) :: (sd, o) :: (rl, ol) :: rest) := by
  have key : ∀ (j i : Nat) (ys : List Value) (rs : List Str) (o : Obj), i + j = n → rs.length = i → StrsAre ys rs → (∀ x ∈ rs, NoNl x ∧ x.length = 1) → IsStrip w o rl (k₀ + i) →
      LCg.CompRest prog w A h₀ L m env elt x scope cl s S P Fin j i ys ((c, oc) :: (sd, o) :: (rl, ol) :: rest) := by
    intro j
    induction j with
    | zero =>
      intro i ys rs o hi hl hy hs ho
      have : i = n := by omega
      subst this
      exact LCg.CompRest.zero (fin ys rs o hy hl hs ho)
    | succ j ih =>
      intro i ys rs o hi hl hy hs ho
      refine LCg.CompRest.succ ?_
      intro v I oI C oC D m₂ h tk E' hv hC hx F N off ne
      refine wpAny_mono (turn (k₀ + i) o I oI C oC D m₂ ys h tk E' (by omega) (by omega) ho hC F N off ne) (fun y s₂ hq => ?_) fun _ _ e => e
      obtain ⟨h', tk', nw, e, F', N', off', hS, o', ch, t, rfl, hn, h1, ho', rfl⟩ := hq
      refine ⟨h', tk', _, e, F', N', off', hS, ?_⟩
      refine ih (i + 1) _ (rs ++ [ch]) o' (by omega) (by simp [hl]) (kct_snoc hy) (fun x hx => ?_) (by rw [show k₀ + ((i + 1 : Nat) : Int) = k₀ + (i : Int) + 1 by omega]; exact ho')
      rcases List.mem_append.mp hx with hx | hx
      · exact hs x hx
      · rw [List.mem_singleton.mp hx]; exact ⟨hn, h1⟩
  exact key n 0 [] [] o (by omega) rfl .nil (fun _ h => nomatch h) (by simpa using ho)
end

section
variable {w : World} {p : Program} {loose : List Str} {mean : ExcName → Option Value} {mg mb : Str → Option Value}
  {dp un : Nat} {gd : Option (List Code)} {cn : Str} {nm : List (Str × NameKind)} {ig ic : Bool} {mo : List (Str × Const)} {a : Addr} {ccd : Value} {cl : List (Str × Addr)} {outer : List Env} {A₀ : Around} {base h₀ : Heap} {L : Addr} {m : Str → Option Value} {s : Shared} {Q E : Value → Shared → Prop}
  {news rest : List (Addr × Obj)} {g : Obj → List (Addr × Obj)}

theorem sum_ones : ∀ {l : List Str}, (∀ x ∈ l, NoNl x ∧ x.length = 1) → (l.map (·.length)).sum = l.length
  | [], _ => rfl
  | x :: r, h => by rw [List.map_cons, List.sum_cons, sum_ones (fun y hy => h y (.tail _ hy)), (h x (.head _)).2, List.length_cons]; omega
theorem len_join_ones {l : List Str} (h : ∀ x ∈ l, NoNl x ∧ x.length = 1) : (Txt.join (Str.ofString "") l).length = l.length := by
  show (Txt.join (Str.ofString "") l).cps.size = _
  rw [← Array.length_toList, join_nil_sep, List.length_flatMap]
  have := sum_ones h
  simpa [Str.length] using this

theorem afresh_M2 : True := by
  w_top off
  k_with_none
  trivial
theorem lines1_M2 : True := by
  k_with "mine k_all" => (assumption)
  k_with "mine k_room" => (ktr_room)
  k_with "call ref" => ((k_here; k_dflt (refine' pick_at ?z3k1 ?z3k2 ?z3k3 ?z3k4 ?z3k5 ?z3k6 ?z3k7 ?z3k8 ?z3k9 ?z3k10 ?z3k11 ?z3k12 ?z3k13 ?z3k14 ?_; (case z3k1 => k_asm); (case z3k2 => k_asm); (case z3k3 => k_asm); (case z3k4 => k_asm); (case z3k5 => k_asm); (case z3k6 => k_updF); (case z3k8 => assumption); (case z3k9 => assumption); (case z3k7 => k_mem); (case z3k10 => ktr_room); (case z3k11 => omega); (case z3k12 => omega); (case z3k13 => decide); (case z3k14 => decide); k_whole); intro _ _ _ _ _ _ _ _ _ _))
  k_with "CompSrc" => ((k_here; k_dflt (refine LCg.CompSrc.range (by rfl) (by k_asm) (by k_asm) (by assumption) (by first | decide | exact small_one (by l_bnd) (by l_bnd) (by l_bnd) (by l_bnd)) (by first | exact rangeSize_nat _ _ | rfl) (by first | exact Nat.le_of_ble_eq_true rfl | (rw [PySem.sizeLine_eq]; omega) | size_fits) ?_; intro _; refine row_rest (fun _ _ _ _ _ _ _ _ _ _ _ _ _ _ _ _ _ _ off' _ => ?_) (fun _ _ _ _ _ _ _ => ?_) (by assumption)); (all_goals (try (simp only [LCg.Off3, and_true] at off')))))
  k_with "CompEnd" => ((refine LCg.CompEnd.intro (by k_asm) (by k_asm) _ (fun _ hp => hp) (by simp only [LCg.Off3, and_true]; assumption) trivial ?_))
  k_with "RowTurn" => ((refine ⟨_, _, _, rfl, (noNl_item _ (by assumption) (by assumption)).1, (noNl_item _ (by assumption) (by assumption)).2, by assumption, rfl⟩))
  k_with "call builtin:str.join" => ((k_here; (with_reducible show wpAny _ _ (call (Value.builtin "str.join") [Value.str _ _, Value.ref _]) _ _ _); refine join_list (by is_list) (by assumption) (by rw [sum_ones (by assumption)]; show _ + _ * 0 ≤ _; omega) ?_; intro _ _))
  trivial

theorem row_spec {sd rl : Addr} {k : Int} {ns : List Int} {o ol : Obj}
    (B : Below A₀ base outer h₀) (F : Fr h₀ L s.heap m) (X : (hd.heap_39 w.params).In h₀) (N : News h₀ L s.heap ((sd, o) :: (rl, ol) :: rest)) (T : Top p loose mean mg mb h₀)
    (hrest : ∀ p ∈ ((rl, ol) :: rest), p.1 ≠ sd) (ho : IsStrip w o rl k) (hol : IsRow ol ns)
    (hdp : dp + 3 < recursionLimit) (hk0 : 0 ≤ k) (hk1 : k < 900) 
    (hret : ∀ (r : Str) (t : Tok) h' tk' o' k', r.length ≤ 8 → NoNl r → k ≤ k' → k' ≤ k + 9 → IsStrip w o' rl k' → Fr h₀ L h' m → News h₀ L h' ((sd, o') :: (rl, ol) :: rest) → Q (.str r t) { s with heap := h', toks := tk' }) :
    wpAny (model PySem.Challenge.rw_pq0156_01.row.toRowW.prog w) (ktrTop dp un gd cn (fsc nm ig ic mo) L a ccd cl outer) (call (.ref 70) [.ref sd]) Q E s := by
  revert X; k_fill; intro X
  refine wpAny_call ?_
  k_dflt k_enter
  k_steps
  have off' := trivial
  rename_i hy' hl' hs' hS' _ _ _ _ _ _ _ _ _ _ _ _
  refine hret _ _ _ _ _ _ ?_ (noNl_join fun x hx => (hs' x hx).1) ?_ ?_ hS' (by k_asm) (fun p hp => (by assumption : News h₀ L _ _) p (.tail _ (.tail _ hp)))
  · rw [len_join_ones hs']; omega
  · omega
  · omega
end
end Mine
end

-- part M3
section
open PySem PySem.W PySem.Calls PyProof.Rows
set_option maxRecDepth 100000
set_option maxHeartbeats 8000000
namespace Mine
theorem afresh_M3 : True := by
  w_top off
  k_with_none
  trivial

/-- a text by the list of its signs -/
abbrev mkS (l : List Nat) : Str := ⟨l.toArray⟩
theorem mkS_toList (x : Str) : mkS x.cps.toList = x := by cases x; simp [mkS]
theorem mkS_inj {a b : List Nat} (h : mkS a = mkS b) : a = b := by
  have := congrArg (fun s : Str => s.cps.toList) h
  simpa using this
theorem len_eq (x : Str) : x.length = x.cps.toList.length := by simp [Str.length]

def isDig (c : Nat) : Bool := 48 ≤ c && c ≤ 57
def numOf (l : List Nat) : Int := l.foldl (fun (n : Int) (c : Nat) => 10 * n + (c : Int) - 48) 0
/-- the blanks ahead; the figures behind them -/
def leadN (row : Str) : Nat := (row.cps.toList.takeWhile (· == 32)).length
def figs (row : Str) : List Nat := (row.cps.toList.drop (leadN row)).takeWhile isDig

theorem item_mk {x : Str} {i : Nat} {k : Int} (hk : k = i) (h : i < x.length) : Txt.item x k = mkS [x.cps.toList.getD i 0] := by
  subst hk
  unfold Txt.item Txt.charAt seqIndex?
  have h1 : ¬ (i : Int) < 0 := by omega
  have h2 : (0 ≤ (i : Int) && decide ((i : Int) < (x.length : Nat))) = true := by simp; omega
  simp only [h1, if_false]
  simp only [h2, if_true, Option.bind_some, Int.toNat_natCast]
  simp [mkS, List.getD, Array.getElem?_toList]

theorem item_blank {x : Str} {i : Nat} {k : Int} (hk : k = i) (h : i < x.length) (b : Bool) : (Txt.item x k == Str.ofString " ") = b ↔ (x.cps.toList.getD i 0 == 32) = b := by
  rw [item_mk hk h, show Str.ofString " " = mkS [32] from by decide]
  have : (mkS [x.cps.toList.getD i 0] == mkS [32]) = (x.cps.toList.getD i 0 == 32) := by
    cases h : (x.cps.toList.getD i 0 == 32) with
    | true => rw [beq_iff_eq.mp h]; decide
    | false =>
      have hn : x.cps.toList.getD i 0 ≠ 32 := by simpa using h
      exact beq_false_of_ne fun e => hn (by simpa using mkS_inj e)
  rw [this]

theorem sing_lt {a b : Nat} : ([a] : List Nat) < [b] ↔ a < b := by
  constructor
  · intro h
    cases h with
    | rel h => exact h
    | cons h => cases h
  · exact fun h => List.Lex.rel h
theorem item_lt0 {x : Str} {i : Nat} {k : Int} (hk : k = i) (h : i < x.length) : (Txt.item x k).cps.toList < (Str.ofString "0").cps.toList ↔ x.cps.toList.getD i 0 < 48 := by
  rw [item_mk hk h, show Str.ofString "0" = mkS [48] from by decide]
  exact sing_lt
theorem item_gt9 {x : Str} {i : Nat} {k : Int} (hk : k = i) (h : i < x.length) : (Str.ofString "9").cps.toList < (Txt.item x k).cps.toList ↔ 57 < x.cps.toList.getD i 0 := by
  rw [item_mk hk h, show Str.ofString "9" = mkS [57] from by decide]
  exact sing_lt

theorem slice_drop {x : Str} {i : Nat} {k : Int} (hk : k = i) (h : i ≤ x.length) : Txt.slice x (some k) none = mkS (x.cps.toList.drop i) := by
  subst hk
  rw [slice_from_eq (b := (x.length : Int)) (by omega) (by omega) rfl]
  rw [show ((x.length : Int) - (i : Int)).toNat = x.length - i by omega, Int.toNat_natCast, List.take_of_length_le]
  rw [List.length_drop, ← len_eq]; omega

theorem lstrip_mk (x : Str) : Txt.lstripChars x (Str.ofString " ") = mkS (x.cps.toList.drop (leadN x)) := by
  unfold Txt.lstripChars
  rw [PyProof.Rows.stripBy_eq]
  have e : (Str.ofString " ").cps.contains = fun c => c == 32 := by
    funext c
    rw [show Str.ofString " " = mkS [32] from by decide]
    rw [Bool.eq_iff_iff]; simp [mkS]
  rw [e]
  unfold Builtin.Str.strSub stripLo stripHi
  simp only [if_true, Bool.false_eq_true, if_false]
  unfold mkS leadN
  congr 1
  apply Array.toList_inj.mp
  simp only [Str.length, Array.toList_extract, List.extract_eq_drop_take, List.toList_toArray]
  apply List.take_of_length_le
  simp

theorem takeWhile_len {p : Nat → Bool} : ∀ {l : List Nat} {i : Nat}, i ≤ l.length → (∀ j < i, p (l.getD j 0) = true) → (i < l.length → p (l.getD i 0) = false) → (l.takeWhile p).length = i
  | l, 0, _, _, h => by
    cases l with
    | nil => rfl
    | cons c r => simp only [List.length_cons, Nat.zero_lt_succ, forall_const, List.getD_cons_zero] at h; simp [List.takeWhile_cons, h]
  | [], i + 1, hi, _, _ => absurd hi (by simp)
  | c :: r, i + 1, hi, h1, h2 => by
    have hc : p c = true := h1 0 (Nat.zero_lt_succ _)
    rw [List.takeWhile_cons, hc, if_pos rfl, List.length_cons, takeWhile_len (by simpa using hi) (fun j hj => by simpa using h1 (j + 1) (by omega)) (fun hl => by simpa using h2 (by simpa using hl))]

end Mine
end

-- part M4
section
open PySem PySem.W PySem.Calls PyProof.Rows
set_option maxRecDepth 100000
set_option maxHeartbeats 8000000
namespace Mine

structure J1 (row : Str) (tr : Tok) (n : Nat) (m : Str → Option Value) : Prop where
  hrow : m (Str.ofString "row") = some (.str row tr)
  at_ : ∃ (i : Nat) (k : Int) (t : Tok), m (Str.ofString "at") = some (.int k t) ∧ k = i ∧ i + n = row.length ∧ ∀ j < i, row.cps.toList.getD j 0 = 32
structure X1 (row : Str) (tr : Tok) (b : Nat) (m : Str → Option Value) : Prop where
  hrow : m (Str.ofString "row") = some (.str row tr)
  at_ : ∃ (k : Int) (t : Tok), m (Str.ofString "at") = some (.int k t) ∧ k = b
structure J2 (row : Str) (tr : Tok) (b : Nat) (n : Nat) (m : Str → Option Value) : Prop where
  hrow : m (Str.ofString "row") = some (.str row tr)
  hb : ∃ (k : Int) (t : Tok), m (Str.ofString "begin") = some (.int k t) ∧ k = b
  at_ : ∃ (j : Nat) (k v : Int) (t t' : Tok), m (Str.ofString "at") = some (.int k t) ∧ k = (b : Int) + j ∧ m (Str.ofString "number") = some (.int v t') ∧ b + j + n = row.length ∧ j ≤ 5 ∧ (∀ i < j, isDig (row.cps.toList.getD (b + i) 0) = true) ∧ v = numOf ((row.cps.toList.drop b).take j) ∧ 0 ≤ v ∧ v < 10 ^ j
structure X2 (row : Str) (tr : Tok) (b e : Nat) (v : Int) (m : Str → Option Value) : Prop where
  hrow : m (Str.ofString "row") = some (.str row tr)
  hb : ∃ (k : Int) (t : Tok), m (Str.ofString "begin") = some (.int k t) ∧ k = b
  hat : ∃ (k : Int) (t : Tok), m (Str.ofString "at") = some (.int k t) ∧ k = (b : Int) + e
  hnum : ∃ t, m (Str.ofString "number") = some (.int v t)
  he : e ≤ 5

/-- what the row's number is -/
inductive NR where
  | none
  | bad
  | ok (v : Int) (r : Str)
def behind (l : List Nat) : List Nat := if l.head? = some 32 then l.drop 1 else l
def numR (row : Str) : NR :=
  if 5 < (figs row).length then .bad else if (figs row).length = 0 then .none else if 65529 < numOf (figs row) then .bad
  else .ok (numOf (figs row)) (mkS (behind (row.cps.toList.drop (leadN row + (figs row).length))))

theorem lead_is {row : Str} {i : Nat} (hi : i ≤ row.length) (h1 : ∀ j < i, row.cps.toList.getD j 0 = 32) (h2 : i < row.length → row.cps.toList.getD i 0 ≠ 32) : i = leadN row :=
  (takeWhile_len (p := (· == 32)) (by rw [← len_eq]; exact hi) (fun j hj => by rw [h1 j hj]; rfl) (fun h => by rw [← len_eq] at h; simpa using h2 h)).symm
theorem getD_drop (l : List Nat) (b j : Nat) : (l.drop b).getD j 0 = l.getD (b + j) 0 := by simp [List.getD]
theorem figs_len {row : Str} {j : Nat} (hj : leadN row + j ≤ row.length) (h1 : ∀ i < j, isDig (row.cps.toList.getD (leadN row + i) 0) = true) (h2 : leadN row + j < row.length → isDig (row.cps.toList.getD (leadN row + j) 0) = false) : (figs row).length = j := by
  refine takeWhile_len (p := isDig) (by rw [List.length_drop, ← len_eq]; omega) (fun i hi => by rw [getD_drop]; exact h1 i hi) fun h => ?_
  rw [getD_drop]
  rw [List.length_drop, ← len_eq] at h
  exact h2 (by omega)
theorem figs_take (row : Str) : figs row = (row.cps.toList.drop (leadN row)).take (figs row).length := by
  have := List.takeWhile_prefix (l := row.cps.toList.drop (leadN row)) isDig
  exact List.prefix_iff_eq_take.mp this
theorem figs_ge {row : Str} {j : Nat} (hj : leadN row + j ≤ row.length) (h1 : ∀ i < j, isDig (row.cps.toList.getD (leadN row + i) 0) = true) : j ≤ (figs row).length := by
  have key : ∀ (l : List Nat) (j : Nat), j ≤ l.length → (∀ i < j, isDig (l.getD i 0) = true) → j ≤ (l.takeWhile isDig).length := by
    intro l
    induction l with
    | nil => intro j h _; simpa using h
    | cons c r ih =>
      intro j h hd
      cases j with
      | zero => exact Nat.zero_le _
      | succ j =>
        have hc : isDig c = true := hd 0 (Nat.zero_lt_succ _)
        rw [List.takeWhile_cons, hc, if_pos rfl, List.length_cons]
        exact Nat.succ_le_succ (ih j (by simpa using h) fun i hi => by simpa using hd (i + 1) (by omega))
  exact key _ j (by rw [List.length_drop, ← len_eq]; omega) fun i hi => by rw [getD_drop]; exact h1 i hi
theorem numOf_snoc (l : List Nat) (c : Nat) : numOf (l ++ [c]) = 10 * numOf l + (c : Int) - 48 := by
  unfold numOf; rw [List.foldl_append]; rfl
theorem take_snoc {l : List Nat} {j : Nat} (h : j < l.length) : l.take (j + 1) = l.take j ++ [l.getD j 0] := by
  rw [List.take_add_one, List.getElem?_eq_getElem h]; simp [List.getD, h]
end Mine
end

-- part M6
section
open PySem PySem.W PySem.Calls PyProof.Rows
open Sem (wp)
set_option maxRecDepth 100000
set_option maxHeartbeats 8000000
namespace Mine
section
variable {prog : Program} {w : World} {A : Around} {E : Value → Shared → Prop} {h : Heap} {g : Array GenState} {d : Drawn} {t : Nat} {os : OsState}
variable {nm q : Str} {C N : Addr} {bs bm : List Value} {hdct : Bool} {sn : List Str} {sub : List Value} {ab : Bool} {col : Option Bool} {dd : Option Addr} {k0 k1 k2 k3 k5 : Option Value} {B newId initId : String}

theorem type_call_init (F : ExcBaseFacts B newId initId bm) {mN : Str → Option Value} {rest : List Value} {Q : Fin → Shared → Prop} {fI : Addr} {fo : Obj}
    (hC : h.get? C = some (excClassObj nm q C N bs bm hdct sn sub ab col dd k0 k1 k2 k3 k5 newId)) (hn : h.Ns N mN) (hni : mN "__init__" = some (.ref fI))
    (hf : h.get? fI = some fo) (hfc : fo.cls = .type "function")
    (hrest : rest.length ≤ sizeLine)
    (next : codeAny (model prog w) A (.call (.ref fI) ⟨.ref (h.objs.size + 1) :: rest, []⟩) (fun r s' => match r with | .ok (.ret v) => v = .none ∧ Q (.done (.ret (.ref (h.objs.size + 1)))) s' | .ok _ => False | .error e => E e s')
      ⟨(h.push { cls := .type "tuple", data := .seq rest.toArray }).push { cls := .ref C, data := .fields #[.ref h.objs.size, .none, .none, .none, .bool false, .none] }, g, d, t, os⟩) :
    wpAny (model prog w) A (Builtin.«type.__call__» ⟨.ref C :: rest, []⟩) Q E ⟨h, g, d, t, os⟩ := by
  repeat (first | with_reducible refine wpAny_loadPart_at hC ?_ | with_reducible refine wpAny_madeBy_exc hC ?_ | wp_step)
  refine codeAny_call_builtin_code (Code.quiet_builtin _ F.quiet) (wpAny_check_new_sub F hC ?_)
  refine codeAny_exc_new_sub F hC ?_ hrest
  show wpAny _ _ _ _ _ _
  have hC₁ := Heap.get?_push_of_some { cls := .ref C, data := .fields #[.ref h.objs.size, .none, .none, .none, .bool false, .none] }
    (Heap.get?_push_of_some { cls := .type "tuple", data := .seq rest.toArray } hC)
  have hn₁ : ((h.push { cls := .type "tuple", data := .seq rest.toArray }).push { cls := .ref C, data := .fields #[.ref h.objs.size, .none, .none, .none, .bool false, .none] }).Ns N mN :=
    let ⟨o, es, ep, e, r⟩ := hn; ⟨o, es, ep, Heap.get?_push_of_some _ (Heap.get?_push_of_some _ e), r⟩
  have hf₁ := Heap.get?_push_of_some { cls := .ref C, data := .fields #[.ref h.objs.size, .none, .none, .none, .bool false, .none] }
    (Heap.get?_push_of_some { cls := .type "tuple", data := .seq rest.toArray } hf)
  have hget : ((h.push { cls := .type "tuple", data := .seq rest.toArray }).push
      { cls := .ref C, data := .fields #[.ref h.objs.size, .none, .none, .none, .bool false, .none] }).get? (h.objs.size + 1) = some
      { cls := .ref C, data := .fields #[.ref h.objs.size, .none, .none, .none, .bool false, .none] } := by heap_get
  have hcC : (Value.ref C :: bm).contains (.ref C) = true := by simp
  unfold isInstance
  repeat (first | with_reducible refine wpAny_loadPart_at hget ?_ | (with_reducible refine wpAny_isSubtype_exc hC₁ ?_; rw [hcC]) | wp_step)
  show wpAny _ _ (typeLookup (.ref C) _) _ _ _
  refine wpAny_typeLookup_exc hC₁ hn₁ F.mroIs F.init.lookup ?_
  rw [hni]
  refine wpAny_holding (wpAny_bind ?_)
  have hTf : ∀ H g d t os, H.get? fI = some fo → (⟨H, g, d, t, os⟩ : Shared).TypeIs (.ref fI) "function" := fun H g d t os e => ⟨fo, e, hfc⟩
  unfold bindSpecial
  repeat (first | with_reducible refine wpAny_loadPart_at hf₁ ?_ | with_reducible refine wpAny_typeOf (hTf _ _ _ _ _ hf₁) ?_ | wp_step)
  refine codeAny_mono next fun r s' hr => ?_
  cases r with
  | error e => exact hr
  | ok f =>
    cases f with
    | ret v =>
      obtain ⟨rfl, hr⟩ := hr
      refine wpAny_pure ?_
      wp_walk
      simpa only [Heap.size_push] using hr
    | _ => exact hr.elim

theorem call_exc_init (F : ExcBaseFacts B newId initId bm) {mN : Str → Option Value} {rest : List Value} {Q : Value → Shared → Prop} {fI : Addr} {fo : Obj}
    (hC : h.get? C = some (excClassObj nm q C N bs bm hdct sn sub ab col dd k0 k1 k2 k3 k5 newId)) (hn : h.Ns N mN) (hni : mN "__init__" = some (.ref fI))
    (hf : h.get? fI = some fo) (hfc : fo.cls = .type "function") (hrest : rest.length ≤ sizeLine)
    (next : codeAny (model prog w) (A.under (.builtin "type.__call__" ⟨.ref C :: rest, []⟩)) (.call (.ref fI) ⟨.ref (h.objs.size + 1) :: rest, []⟩) (fun r s' => match r with | .ok (.ret v) => v = .none ∧ Q (.ref (h.objs.size + 1)) s' | .ok _ => False | .error e => E e s')
      ⟨(h.push { cls := .type "tuple", data := .seq rest.toArray }).push { cls := .ref C, data := .fields #[.ref h.objs.size, .none, .none, .none, .bool false, .none] }, g, d, t, os⟩) :
    wpAny (model prog w) A (call (.ref C) rest) Q E ⟨h, g, d, t, os⟩ := by
  have f1 := tc_lookup
  have f2 := tc_bind (.ref C)
  have hT : (⟨h, g, d, t, os⟩ : Shared).TypeIs (.ref C) "type" := ⟨_, hC, rfl⟩
  refine wpAny_call (codeAny_of_tree ?_)
  show wpAny _ _ (callAny (.ref C) _) _ _ _
  repeat (any_goals (first | assumption | with_reducible refine wpAny_loadPart_at hC ?_ | wp_step))
  refine ⟨rfl, ?_⟩
  refine codeAny_call_builtin_at (Code.quiet_builtin _ (by decide +kernel)) entry_typeCall (wpAny_check_type_call_sub hC (type_call_init F hC hn hni hf hfc hrest (codeAny_mono next fun r s' hr => ?_)))
  cases r with
  | error e => exact hr
  | ok f => cases f <;> exact hr
end
end Mine
end

-- part M8
section
open PySem PySem.W PySem.Calls PyProof.Rows PySem.W.X
set_option maxRecDepth 100000
set_option maxHeartbeats 1000000
namespace Mine
theorem afresh_M8 : True := by
  w_top off
  k_with_none
  trivial
theorem lines1_M8 : True := by
  k_with "mine x_close" => ((refine wpAny_bind (wpAny_pure (wpAny_pure (wpAny_pure ?_))); walk_at "mine end"))
  k_with "mine end" => ((rename ∀ (a : Addr) (h' : Heap), Mem _ h' _ _ → _ => hq9; exact hq9 _ _ (by assumption)))
  trivial
section
variable {w : World} {A : Around} {E : Value → Shared → Prop} {h : Heap} {g : Array GenState} {d : Drawn} {t : Nat} {os : OsState}

theorem super_ga {so x tt : Addr} {tk : Tok} {Q : Fin → Shared → Prop} (X : (hd.heap_39 w.params).In h)
    (hso : h.get? so = some { cls := .type "super", dict := none, data := .fields #[.ref 34, .ref x, .ref 34], slots := #[] })
    (hq : ∀ (a : Addr) (h' : Heap), Mem h h' [] [(a, ⟨.type "method-wrapper", none, .fields #[.builtin "Exception.__init__", .ref x], #[]⟩)] → Q (.done (.ret (.ref a))) ⟨h', g, d, t, os⟩)
    (hdp : A.depth + 10 < recursionLimit) (hun : A.units + 60 < cLine)
    (hexc : h.get? x = some ⟨.ref 34, none, .fields #[.ref tt, .none, .none, .none, .bool false, .none], #[]⟩) :
    wpAny (model PySem.Challenge.rw_pq0156_01.row.toRowW.prog w) A (Builtin.«super.__getattribute__» ⟨[.ref so, .str (Str.ofString "__init__") tk], []⟩) Q E ⟨h, g, d, t, os⟩ := by
  revert X; k_fill; intro X
  have hxC : x ≠ 34 := by
    rintro rfl
    have := X 34 _ rfl
    rw [hexc] at this; cases this
  have ho : nsIn (hd.heap_39 w.params) cStatics "thirdparty.any" = some none := by k_is
  have hno : Looks (model PySem.Challenge.rw_pq0156_01.row.toRowW.prog w) h (opaqueClassAbove (.ref 34)) none := looks_opaque X ho
  have hC : ∃ l₀ l, Looks (model PySem.Challenge.rw_pq0156_01.row.toRowW.prog w) h (mroOf (.ref 34)) l₀ ∧ (l₀.dropWhile (· != .ref 34)).drop 1 = l ∧ alongIn (hd.heap_39 w.params) (Str.ofString "__init__") l = some (some (.builtin "Exception.__init__")) := by
    refine ⟨_, [.type "Exception", .type "BaseException", .type "object"], fun A Q E s k q => wpAny_bind ((looks_clsIn X (show clsIn _ _ = some _ from rfl)) A _ E s k (wpAny_pure q)), ?_, by kernel_rfl⟩
    decide +kernel
  obtain ⟨l₀, l, hC, hl, hf⟩ := hC
  have hne : (Value.ref x == Value.ref 34) = false := by simp [hxC]
  have hdt : ({ cls := .type "super", dict := none, data := .fields #[.ref 34, .ref x, .ref 34], slots := #[] } : Obj).data = .fields #[.ref 34, .ref x, .ref 34] := rfl
  have f0 : (#[.ref 34, .ref x, .ref 34] : Array Value)[0]? = some (.ref 34) := rfl
  have f1 : (#[.ref 34, .ref x, .ref 34] : Array Value)[1]? = some (.ref x) := rfl
  have f2 : (#[.ref 34, .ref x, .ref 34] : Array Value)[2]? = some (.ref 34) := rfl
  have hn : ((Str.ofString "__init__") == ("__class__" : Str)) = false := by decide
  unfold Builtin.«super.__getattribute__»
  repeat (first
    | (with_reducible refine wpAny_field hso hdt f0 ?_) | (with_reducible refine wpAny_field hso hdt f1 ?_) | (with_reducible refine wpAny_field hso hdt f2 ?_)
    | (with_reducible refine ks_wpAny_notOpaque hno ?_)
    | (with_reducible refine Looks.at hC ?_; rw [hl])
    | (refine ks_forIn_along X (fun _ _ => rfl) rfl ?_ hf)
    | (with_reducible refine ⟨_, rfl, ?_⟩)
    | (simp only [hn, hne, Bool.or_false, Bool.false_eq_true, if_false])
    | wp_step
    | dsimp only)
  rw [show builtinKind "Exception.__init__" = some .slot from by decide +kernel]
  dsimp only
  refine wpAny_of_eq (show typeLookup (.type "wrapper_descriptor") _ = pure (some (.builtin "wrapper_descriptor.__get__")) from by rw [typeLookup_type, builtinLookup_eq_fast]; kernel_rfl) ?_
  dsimp only
  refine wpAny_bind (wpAny_holding ?_)
  x_run

theorem gm_init {so x tt : Addr} {pl : Sem Bool} {Q : Value × List Value → Shared → Prop} (X : (hd.heap_39 w.params).In h)
    (hso : h.get? so = some { cls := .type "super", dict := none, data := .fields #[.ref 34, .ref x, .ref 34], slots := #[] })
    (hexc : h.get? x = some ⟨.ref 34, none, .fields #[.ref tt, .none, .none, .none, .bool false, .none], #[]⟩)
    (hdp : A.depth + 20 < recursionLimit) (hun : A.units + 100 < cLine)
    (hq : ∀ (a : Addr) (h' : Heap), Mem h h' [] [(a, ⟨.type "method-wrapper", none, .fields #[.builtin "Exception.__init__", .ref x], #[]⟩)] → Q (.ref a, []) ⟨h', g, d, t + 1, os⟩) :
    wpAny (model PySem.Challenge.rw_pq0156_01.row.toRowW.prog w) A (getMethod (.ref so) (Str.ofString "__init__") pl) Q E ⟨h, g, d, t, os⟩ := by
  have hT : ∀ t' gg d os, (⟨h, gg, d, t', os⟩ : Shared).TypeIs (.ref so) "super" := fun _ _ _ _ => ⟨_, hso, rfl⟩
  have hlk := F.ks_slot_super_ga.lookup
  have hcan := F.ks_canon_super_ga
  unfold getMethod
  refine wpAny_bind (wpAny_specialOf (hT _ _ _ _) hlk ?_)
  show wpAny _ _ (if (Manifest.canonical "super.__getattribute__" != "object.__getattribute__") = true then _ else _) _ _ _
  rw [if_pos hcan]
  unfold getAttr getAttrBy
  refine wpAny_bind (wpAny_bind (wpAny_mkText (wpAny_holding (wpAny_bind (wpAny_typeOf (hT _ _ _ _) (wpAny_bind (wpAny_of_eq hlk ?_)))))))
  show wpAny _ _ (getAttrByItsOwn (.ref so) (.str _ t) (.type "super") (.builtin "super.__getattribute__") true false) _ _ _
  unfold getAttrByItsOwn hookBefore callGetattribute boundAndCalled
  refine wpAny_bind (wpAny_of_eq (show (if onTheHeap (.type "super") then typeLookup (.type "super") "__getattr__" else pure none) = pure none from rfl) ?_)
  refine wpAny_bind (wpAny_attempt (wpAny_holding ?_))
  show wpAny _ _ (bindSpecial (.builtin "super.__getattribute__") (.ref so) >>= _) _ _ _
  refine wpAny_bind (wpAny_of_eq (F.ks_slot_super_ga.bind _) ?_)
  refine wpAny_mono (Q := fun v s' => ∃ a h', v = .ref a ∧ s' = ⟨h', g, d, t + 1, os⟩ ∧ Mem h h' [] [(a, ⟨.type "method-wrapper", none, .fields #[.builtin "Exception.__init__", .ref x], #[]⟩)]) (E := fun _ _ => False)
    (wpAny_call_entry F.ks_slot_super_ga (hT _ _ _ _) F.ks_entry_super_ga (super_ga X hso (fun a h' hm => ⟨_, rfl, a, h', rfl, rfl, hm⟩) (by show A.depth + _ < _; omega) (by show A.units + 1 + _ < _; omega) hexc) (F.ks_gaArgs_super _ _)) (fun v s' hv => ?_) fun _ _ z => z.elim
  obtain ⟨a, h', rfl, rfl, hm⟩ := hv
  exact wpAny_pure (wpAny_pure (hq a h' hm))
end
end Mine
end

-- part M9
section
open PySem PySem.W PySem.Calls PyProof.Rows PySem.W.X
set_option maxRecDepth 100000
set_option maxHeartbeats 8000000
namespace Mine
theorem afresh_M9 : True := by
  w_top off
  k_with_none
  trivial
section
variable {prog : Program} {w : World} {A : Around} {E : Value → Shared → Prop} {h : Heap} {g : Array GenState} {d : Drawn} {t : Nat} {os : OsState}
variable {nm q : Str} {C N : Addr} {bs bm : List Value} {hdct : Bool} {sn : List Str} {sub : List Value} {ab : Bool} {col : Option Bool} {dd : Option Addr} {k0 k1 k2 k3 k5 : Option Value} {B newId initId : String}

theorem mw_call {mw x tt : Addr} {v : Value} {Q : Value → Shared → Prop} 
    (hmw : h.get? mw = some ⟨.type "method-wrapper", none, .fields #[.builtin "Exception.__init__", .ref x], #[]⟩)
    (hexc : h.get? x = some ⟨.ref C, none, .fields #[.ref tt, .none, .none, .none, .bool false, .none], #[]⟩)
    (hC : h.get? C = some (excClassObj nm q C N bs [.type "Exception", .type "BaseException", .type "object"] hdct sn sub ab col dd k0 k1 k2 k3 k5 newId))
    (hq : Q .none ⟨(h.push { cls := .type "tuple", data := .seq #[v] }).update x (Obj.mapFields (·.setIfInBounds 0 (.ref h.objs.size))), g, d, t, os⟩) :
    wpAny (model prog w) A (call (.ref mw) [v]) Q E ⟨h, g, d, t, os⟩ := by
  have hT : ∀ t' gg d os, (⟨h, gg, d, t', os⟩ : Shared).TypeIs (.ref mw) "method-wrapper" := fun _ _ _ _ => ⟨_, hmw, rfl⟩
  refine wpAny_call (codeAny_of_tree ?_)
  show wpAny _ _ (callAny (.ref mw) _) _ _ _
  repeat (any_goals (first | assumption | with_reducible refine wpAny_loadPart_at hmw ?_ | with_reducible refine wpAny_loadPart_at hexc ?_ | with_reducible refine wpAny_loadPart_at hC ?_ | wp_step))
  show (Code.builtin "Exception.__init__" ⟨[.ref x, v], []⟩).quiet = true ∧ codeAny _ _ (.builtin "Exception.__init__" ⟨[.ref x, v], []⟩) _ _
  refine ⟨Code.quiet_builtin _ (by decide +kernel), ?_⟩
  refine codeAny_builtin PySem.F.excBase_Exception.initEntry ?_
  show wpAny _ _ (Builtin.«BaseException.__init__» ⟨[.ref x, v], []⟩) _ _ _
  wp_walk
  exact hq

end
theorem callWith_mw0 {prog : Program} {w : World} {A : Around} {E : Value → Shared → Prop} {s : Shared} {pos : Pos} {f : Addr} {vs : Array Value} {x : Sem Value} {args : List (Bool × Sem Value)} {Q : Value → Shared → Prop}
    (h : wpAny (model prog w) A (spliced ((false, x) :: args)) (fun a s₁ => s₁.heap.get? f = some ⟨.type "method-wrapper", none, .fields vs, #[]⟩ ∧ wpAny (model prog w) A (call (.ref f) a) Q E s₁) E s)
    (hplain : args.any (·.1) = false) :
    wpAny (model prog w) A (callWith pos (.ref f) [] ((false, x) :: args) []) Q E s := by
  unfold callWith
  refine wpAny_bind (wpAny_holding (wpAny_mono (evalArgs_plain (Q := fun a s₁ => s₁.heap.get? f = some ⟨.type "method-wrapper", none, .fields vs, #[]⟩ ∧ wpAny (model prog w) A (call (.ref f) a.pos a.kw) Q E s₁) h) (fun a s₁ h₁ => wpAny_bind (wpAny_standAt ?_)) fun _ _ x => x))
  obtain ⟨hf, h₁⟩ := h₁
  simp only [hplain, List.any_cons, List.any_nil, Bool.or_false]
  refine wpAny_bind ?_
  unfold keeperOf
  refine wpAny_bind (wpAny_load hf ?_)
  dsimp only
  refine wpAny_of_eq (show (if (Value.type "method-wrapper" != Value.type "method") = true then _ else _) = pure Keeper.machine from rfl) ?_
  exact wpAny_bind (wpAny_mono h₁ (fun r s₂ hr => wpAny_bind (wpAny_holding (wpAny_point (wpAny_pure hr)))) fun _ _ x => x)
theorem callWith_mw {prog : Program} {w : World} {A : Around} {E : Value → Shared → Prop} {s : Shared} {pos : Pos} {f : Addr} {vs : Array Value} {e : PySem.Expr} {rest : List PySem.Expr} {env : Env} {Q : Value → Shared → Prop}
    (h : wpAny (model prog w) A (spliced (backTo pos (starEach (e :: rest) env))) (fun a s₁ => s₁.heap.get? f = some ⟨.type "method-wrapper", none, .fields vs, #[]⟩ ∧ wpAny (model prog w) A (call (.ref f) a) Q E s₁) E s)
    (he : starEach (e :: rest) env = (false, eval e env) :: starEach rest env := by rfl) (hplain : (backTo pos (starEach rest env)).any (·.1) = false := by rfl) :
    wpAny (model prog w) A (callWith pos (.ref f) [] (backTo pos (starEach (e :: rest) env)) []) Q E s := by
  have e2 : backTo pos (starEach (e :: rest) env) = (false, eval e env) :: backTo pos (starEach rest env) := by rw [he]; rfl
  rw [e2] at h ⊢
  exact callWith_mw0 h hplain
end Mine
end

-- part M9b
section
open PySem PySem.W PySem.Calls PyProof.Rows PySem.W.X
set_option maxRecDepth 100000
set_option maxHeartbeats 4000000
namespace Mine
section
variable {prog : Program} {w : World} {A : Around} {E : Value → Shared → Prop} {h : Heap} {g : Array GenState} {d : Drawn} {t : Nat} {os : OsState}
variable {nm q : Str} {C N x : Addr} {bs bm : List Value} {sn : List Str} {sub : List Value} {ab : Bool} {col : Option Bool} {dd : Option Addr} {k0 k1 k2 k3 k5 : Option Value} {B newId sa owner : String}
  {mN : Str → Option Value} {name : Str} {v : Value} {vs : Array Value}

/-- the first name of a raised object: its dict is made -/
theorem store_first {Q : Unit → Shared → Prop} {o : Obj} (SF : StoreFacts B bm sa owner)
    (hC : h.get? C = some (excClassObj nm q C N bs bm true sn sub ab col dd k0 k1 k2 k3 k5 newId)) (hn : h.Ns N mN) (hns : mN "__setattr__" = none) (hna : mN name = none)
    (hB : typeLookup (.type B) name = pure none) (hx : h.get? x = some o) (hc : o.cls = .ref C) (hdn : o.dict = none) (hdt : o.data = .fields vs)
    (hq : ∀ h' tk' D, h.get? D = none → D ≠ x → h'.get? x = some ⟨.ref C, some D, .fields vs, o.slots⟩ → h'.Ns1 D (fun y => if y = name then some v else none) →
      (∀ b o, b ≠ x → h.get? b = some o → h'.get? b = some o) → Q () ⟨h', g, d, tk', os⟩) :
    wpAny (model prog w) A (setAttr (.ref x) name v) Q E ⟨h, g, d, t, os⟩ := by
  have f3 := SF.slot.bind (.ref x)
  have hpass := SF.passes (.ref x)
  have hxs : x ≠ h.objs.size := Nat.ne_of_lt (Heap.lt_size hx)
  unfold setAttr callSpecial? specialOf
  repeat (any_goals (first | assumption | (with_reducible refine wpAny_loadPart_at hx ?_; rw [hc]) | (with_reducible refine wpAny_typeLookup_exc hC hn SF.mro SF.slot.lookup ?_; rw [hns]) | wp_step))
  refine codeAny_call_builtin SF.slot.plain SF.entry (wpAny_check_sa SF hC hx hc ?_)
  unfold Builtin.«object.__setattr__»
  repeat (first | rw [refuse_eq] | (rw [refuseLoop_ref, hpass]) | (with_reducible refine wpAny_loadPart_at hx ?_; rw [hc]) | with_reducible refine wpAny_mroOf_exc hC ?_ | (with_reducible refine wpAny_typeLookup_exc hC hn SF.mro hB ?_; rw [hna]) | wp_step)
  rw [hdn, if_neg (by simp [typeHasDict])]
  obtain ⟨oc, od, odt, osl⟩ := o
  dsimp only at hc hdn hdt hq
  subst hc hdn hdt
  have hx₁ : (h.push { cls := .type "dict", data := .dict #[] }).get? x = some ⟨.ref C, none, .fields vs, osl⟩ := Heap.get?_push_of_some _ hx
  refine wpAny_bind (wpAny_alloc' ?_)
  refine wpAny_bind (wpAny_update' hx₁ ?_)
  refine wpAny_pure ?_
  have hgd : ((h.push { cls := .type "dict", data := .dict #[] }).update x fun o => { cls := o.cls, dict := some h.objs.size, data := o.data, slots := o.slots }).get? h.objs.size
      = some { cls := .type "dict", data := .dict #[] } := (Heap.get?_update_ne _ _ _ _ hxs.symm).trans (Heap.get?_push_at rfl rfl)
  have hnd : ((h.push { cls := .type "dict", data := .dict #[] }).update x fun o => { cls := o.cls, dict := some h.objs.size, data := o.data, slots := o.slots }).Ns h.objs.size (fun _ => none) :=
    ⟨_, #[], _, hgd, rfl, fun e he => absurd he (by simp), fun _ => rfl⟩
  have hgx : ((h.push { cls := .type "dict", data := .dict #[] }).update x fun o => { cls := o.cls, dict := some h.objs.size, data := o.data, slots := o.slots }).get? x = some ⟨.ref C, some h.objs.size, .fields vs, osl⟩ :=
    Heap.get?_update_self _ hx₁ rfl
  show wpAny _ _ (Builtin.ObjectAttr.storeInDict h.objs.size (.str name _) name v) _ _ _
  unfold Builtin.ObjectAttr.storeInDict Builtin.ObjectAttr.newKeyGuard
  refine wpAny_bind (wpAny_pure (wpAny_bind (wpAny_nsSet1 (Heap.Ns1.of_empty hnd) fun h' hn' hs => ?_)))
  obtain ⟨oD, esD, epD, hoD, hdD, hcD⟩ := hn'.count (Within.cons name v Within.nil)
  refine wpAny_bind (wpAny_lookBehind hoD (by rw [hdD]; exact pastItsLine_dict (Nat.le_trans hcD (by rw [List.length_cons, List.length_nil, sizeLine_eq]; omega))) ?_)
  wp_walk
  refine hq h' _ h.objs.size (Heap.get?_none_of_le (Nat.le_refl _)) hxs.symm ((hs.2 x hxs).trans hgx) hn' (fun b ob hbx hb => ?_)
  exact (hs.2 b (Nat.ne_of_lt (Heap.lt_size hb))).trans ((Heap.get?_update_ne _ _ _ _ hbx).trans (Heap.get?_push_of_some _ hb))
end
end Mine
end

-- part M10
section
open PySem PySem.W PySem.Calls PyProof.Rows PySem.W.X
set_option maxRecDepth 100000
set_option maxHeartbeats 8000000
namespace Mine

theorem ns_some {K : Frag} {h : Heap} {N : Addr} {mg : Str → Option Value} {n : Str} {v : Value} (X : K.In h) (G : h.Ns N mg) (e : nsIn K N n = some (some v)) : mg n = some v := by
  obtain ⟨o, es, ep, ho, hd, _, hf⟩ := G
  unfold nsIn at e
  split at e
  · rename_i c d es' n' sl q
    have := X _ _ q
    rw [ho] at this
    cases this
    cases hd
    rw [← hf n]
    unfold nsFind findBy
    rw [← Array.find?_toList]
    split at e
    · rename_i en he
      cases e
      rw [he]; rfl
    · split at e <;> cases e
  · cases e

abbrev tup (vs : List Value) : Obj := { cls := .type "tuple", data := .seq vs.toArray }
theorem fr_but1 {h₀ h h' : Heap} {L x : Addr} {m : Str → Option Value} (F : Fr h₀ L h m) (hx : h₀.get? x = none) (hxL : L ≠ x) (hk : ∀ b o, b ≠ x → h.get? b = some o → h'.get? b = some o) : Fr h₀ L h' m :=
  let ⟨o, es, ep, ho, r⟩ := F.ns
  ⟨⟨o, es, ep, hk _ _ hxL ho, r⟩, fun b o e => hk b o (fun q => by rw [q, hx] at e; cases e) (F.keep b o e), F.above⟩
theorem fr_but2 {h₀ h h' : Heap} {L x y : Addr} {m : Str → Option Value} (F : Fr h₀ L h m) (hx : h₀.get? x = none) (hxL : L ≠ x) (hy : h₀.get? y = none) (hyL : L ≠ y) (hk : ∀ b o, b ≠ x → b ≠ y → h.get? b = some o → h'.get? b = some o) : Fr h₀ L h' m :=
  let ⟨o, es, ep, ho, r⟩ := F.ns
  ⟨⟨o, es, ep, hk _ _ hxL hyL ho, r⟩, fun b o e => hk b o (fun q => by rw [q, hx] at e; cases e) (fun q => by rw [q, hy] at e; cases e) (F.keep b o e), F.above⟩
/-- the made error's dict tells its code -/
def TellsSN (oD : Obj) : Prop := ∃ es ep t, oD.data = .dict es ep ∧ StrKeys es ∧ UniqKeys es ∧ nsFind es (Str.ofString "code") = some (.str (Str.ofString "SN") t)
abbrev errObj (D : Addr) (vs : Array Value) : Obj := ⟨.ref 34, some D, .fields vs, #[]⟩
abbrev excObj (t : Addr) : Obj := { cls := .ref 34, data := .fields #[.ref t, .none, .none, .none, .bool false, .none] }

section
variable {w : World} {p : Program} {loose : List Str} {mean : ExcName → Option Value} {mg mb : Str → Option Value}
  {dp un : Nat} {gd : Option (List Code)} {cn : Str} {nm : List (Str × NameKind)} {ig ic : Bool} {mo : List (Str × Const)} {a : Addr} {ccd : Value} {cl : List (Str × Addr)} {outer : List Env} {A₀ : Around} {base h₀ : Heap} {L : Addr} {m : Str → Option Value} {s : Shared} {Q E : Value → Shared → Prop}
  {news rest : List (Addr × Obj)} {g : Obj → List (Addr × Obj)}
theorem afresh_M10 : True := by
  w_top off
  k_with_none
  trivial
theorem lines1_M10 : True := by
  k_with "mine k_room" => (ktr_room)
  trivial

theorem make_err {x : Str} {t1 t2 : Tok}
    (B : Below A₀ base outer h₀) (F₀ : Fr h₀ L s.heap m) (X : (hd.heap_39 w.params).In h₀) (N : News h₀ L s.heap news) (T : Top p loose mean mg mb h₀)
    (hdp : dp + 40 < recursionLimit) (hun : un + 200 < cLine)
    (hret : ∀ h' tk' e D oD vs, Fr h₀ L h' m → News h₀ L h' ((e, errObj D vs) :: (D, oD) :: news) → e ≠ D → (∀ p ∈ news, p.1 ≠ e ∧ p.1 ≠ D) → vs.size = 6 → vs[1]? = some .none → TellsSN oD → Q (.ref e) { s with heap := h', toks := tk' }) :
    wpAny (model PySem.Challenge.rw_pq0156_01.row.toRowW.prog w) (ktrTop dp un gd cn (fsc nm ig ic mo) L a ccd cl outer) (call (.ref 34) [.str (Str.ofString "SN") t1, .str x t2]) Q E s := by
  revert X; k_fill; intro X
  have X' := X.keeps F₀.keep
  obtain ⟨h, gg, d, t, os⟩ := s
  have hlt : ∀ p ∈ news, p.1 < h.objs.size := fun p hp => Heap.lt_size (N p hp).1
  have hn : h.Ns 33 (h.nsMap 33) := .of_isNs (isNs_of_in X' (by kernel_rfl))
  obtain ⟨fo, hfo, hfc⟩ : ∃ fo, (hd.heap_39 w.params).lookup 31 = some fo ∧ fo.cls = .type "function" := ⟨_, rfl, rfl⟩
  refine call_exc_init PySem.F.excBase_Exception (X' 34 _ rfl) hn (ns_some X' hn (by k_is)) (X' 31 _ hfo) hfc (by show 2 ≤ sizeLine; decide) ?_
  have F2 := (F₀.push (tup [.str (Str.ofString "SN") t1, .str x t2])).push (excObj h.objs.size)
  have N2 := News.push (F₀.push (tup [.str (Str.ofString "SN") t1, .str x t2])) (N.push F₀ (tup [.str (Str.ofString "SN") t1, .str x t2])) (excObj h.objs.size)
  rw [Heap.size_push] at N2
  generalize hH : (h.push (tup [.str (Str.ofString "SN") t1, .str x t2])).push (excObj h.objs.size) = H at F2 N2
  generalize h.objs.size = e at F2 N2 hH hlt ⊢
  k_dflt (refine' ks_code_super ?k1 F2 X N2 T ?kA ?kF ?kK ?k6 ?k7 ?k8 ?k9 ?kB ?_ ?c1 ?c2 ?c3 ?c4)
  case kA => exact rfl
  case kF => exact rfl
  case kK => exact rfl
  case k1 => exact B
  case k6 => k_is
  case k7 => k_is
  case k8 => ktr_room
  case k9 => refine' kp_binds ?kx ?ke; (case kx => exact X.keeps F2.keep); (case ke => exact fun _ => rfl)
  case kB => exact locs rfl
  case c1 => decide
  case c2 => exact rfl
  case c3 => exact rfl
  case c4 => exact rfl
  intro g' L' h' FG' F' N' B' X2 T' l1
  k_lt l1
  dsimp only
  iterate 3 walk1
  k_dflt (refine ks_node (ox := excObj e) (odx := none) (x := e + 1) (C := 34) (D := 34) F' X2 N' T' (by k_is) (by rfl) (by rfl) ⟨N'.get (.head _), rfl, rfl, trivial⟩ (by k_is) (by rfl) (by first | rfl | decide +kernel) (by k_is) (by k_is) (by k_is) (by k_is) (by decide) (by rfl) (by rfl) (by rfl) (by rfl) (by decide +kernel) (by first | boot_by_name | rfl | kernel_rfl) ?_)
  intro so h2 F2 N2 l2
  have hso : h2.get? so = some ⟨.type "super", none, .fields #[.ref 34, .ref (e + 1), .ref 34], #[]⟩ := N2.get (.head _)
  have hexc : h2.get? (e + 1) = some ⟨.ref 34, none, .fields #[.ref e, .none, .none, .none, .bool false, .none], #[]⟩ := N2.get (.tail _ (.head _))
  have KX := X2.keeps F2.keep
  have hcu : (Code.builtin "type.__call__" ⟨.ref 34 :: [.str (Str.ofString "SN") t1, .str x t2], []⟩).cUnits ≤ 10 := by
    have h1 : ∀ b : Bool, (if b = true then 1 else 0) ≤ 1 := by intro b; cases b <;> decide
    have h2 := h1 (Code.builtin "type.__call__" ⟨.ref 34 :: [.str (Str.ofString "SN") t1, .str x t2], []⟩).isFrame
    show 1 + 3 * (if (Code.builtin "type.__call__" ⟨.ref 34 :: [.str (Str.ofString "SN") t1, .str x t2], []⟩).isFrame = true then 1 else 0) ≤ 10
    omega
  refine gm_init KX hso hexc (by show _ + _ < _; simp only [depth_under_make, depth_deeper]; show dp + _ + _ + _ < _; omega) (by show (un + (Code.builtin "type.__call__" ⟨.ref 34 :: [.str (Str.ofString "SN") t1, .str x t2], []⟩).cUnits + 3) + _ < _; omega) fun mw h3 D3 => ?_
  have k3 : ∀ b o, h2.get? b = some o → h3.get? b = some o := fun b o e => D3.keep b o e (by simp [away])
  have F3 := F2.keeps k3
  have N3 := N2.grown k3
  have hmw := D3.at 0 _ _ rfl
  have hexc3 := k3 _ _ hexc
  have KX3 := X2.keeps F3.keep
  dsimp only
  refine callWith_mw (vs := #[.builtin "Exception.__init__", .ref (e + 1)]) ?_
  iterate 3 walk1
  refine ⟨hmw, ?_⟩
  refine mw_call (nm := Str.ofString "BasicError") hmw hexc3 (KX3 34 _ rfl) ?_
  have N3p := News.push F3 N3 (tup [.str (Str.ofString "SN") t1])
  have F3p := F3.push (tup [.str (Str.ofString "SN") t1])
  have hne1 : so ≠ e + 1 := Nat.ne_of_gt (l2 _ (.head _))
  have hne2 : h3.objs.size ≠ e + 1 := Nat.ne_of_gt (Heap.lt_size hexc3)
  obtain ⟨F4, N4⟩ := news_upd (pre := [(h3.objs.size, tup [.str (Str.ofString "SN") t1]), (so, ks_superObj 34 (e + 1) 34)]) (post := (e, tup [.str (Str.ofString "SN") t1, .str x t2]) :: news) (o' := excObj h3.objs.size) (f := Obj.mapFields (·.setIfInBounds 0 (.ref h3.objs.size))) F3p N3p
    (fun p hp => by
      rcases List.mem_cons.mp hp with rfl | hp
      · exact hne2
      · rw [List.mem_singleton.mp hp]; exact hne1)
    (fun p hp => by
      rcases List.mem_cons.mp hp with rfl | hp
      · exact Nat.ne_of_lt (Nat.lt_succ_self e)
      · exact Nat.ne_of_lt (Nat.lt_succ_of_lt (hlt p hp))) rfl rfl
  have hh4 : (h3.push { cls := .type "tuple", data := .seq [.str (Str.ofString "SN") t1].toArray }).update (e + 1) (Obj.mapFields (·.setIfInBounds 0 (.ref h3.objs.size))) = (h3.push (tup [.str (Str.ofString "SN") t1])).update (e + 1) (Obj.mapFields (·.setIfInBounds 0 (.ref h3.objs.size))) := rfl
  generalize (h3.push (tup [.str (Str.ofString "SN") t1])).update (e + 1) (Obj.mapFields (·.setIfInBounds 0 (.ref h3.objs.size))) = h4 at F4 N4 hh4
  clear hh4
  iterate 5 walk1
  have KX4 := X2.keeps F4.keep
  have hn4 : h4.Ns 33 (h4.nsMap 33) := .of_isNs (isNs_of_in KX4 (by kernel_rfl))
  have hx4 : h4.get? (e + 1) = some (excObj h3.objs.size) := N4.get (.tail _ (.tail _ (.head _)))
  have hg1 : g'.get? (e + 1) = none := N4.fresh (.tail _ (.tail _ (.head _)))
  have hL1 : L' ≠ e + 1 := Nat.ne_of_gt l1.1
  refine store_first (nm := Str.ofString "BasicError") (name := Str.ofString "code") (vs := #[.ref h3.objs.size, .none, .none, .none, .bool false, .none]) PySem.F.store_Exception (KX4 34 _ rfl) hn4 (ns_none_of KX4 hn4 (by k_is)) (ns_none_of KX4 hn4 (by k_is)) (by rw [typeLookup_type, builtinLookup_eq_fast]; kernel_rfl) hx4 rfl rfl rfl fun h5 tk5 D hD hDx hx5 hns5 k5 => ?_
  have hgD : g'.get? D = none := by
    cases q : g'.get? D with
    | none => rfl
    | some o => rw [F4.keep _ _ q] at hD; cases hD
  have hLD : L' ≠ D := fun q => by
    obtain ⟨o, _, _, ho, _⟩ := F4.ns
    rw [q, hD] at ho; cases ho
  have F5 := fr_but1 F4 hg1 hL1 k5
  have hnD : ∀ p ∈ news, p.1 ≠ e + 1 ∧ p.1 ≠ D := fun p hp => ⟨Nat.ne_of_lt (Nat.lt_succ_of_lt (hlt p hp)), fun q => by
    have := N4.get (a := p.1) (o := p.2) (.tail _ (.tail _ (.tail _ (.tail _ hp))))
    rw [q, hD] at this; cases this⟩
  have N5 : News g' L' h5 news := fun p hp => ⟨k5 _ _ (hnD p hp).1 (N4 p (.tail _ (.tail _ (.tail _ (.tail _ hp))))).1, (N4 p (.tail _ (.tail _ (.tail _ (.tail _ hp))))).2⟩
  iterate 5 walk1
  have KX5 := X2.keeps F5.keep
  have hn5 : h5.Ns 33 (h5.nsMap 33) := .of_isNs (isNs_of_in KX5 (by kernel_rfl))
  have I5 : h5.Inst (e + 1) 34 (fun y => if y = Str.ofString "code" then some (.str (Str.ofString "SN") t1) else none) := ⟨_, hx5, rfl, (by intro c h; cases h), .inr ⟨D, rfl, hDx, hns5⟩⟩
  refine store_attr PySem.F.store_Exception (KX5 34 _ rfl) hn5 (ns_none_of KX5 hn5 (by k_is)) (ns_none_of KX5 hn5 (by k_is)) (by rw [typeLookup_type, builtinLookup_eq_fast]; kernel_rfl) (by intro q; have := X2.keeps F5.keep 34 _ rfl; rw [← q, hx5] at this; cases this) I5 (fun h6 tk6 I6 hk6 hsame6 => ?_)
  obtain ⟨o6, hx6, hc6, hd6, hs6, hD6⟩ := hsame6 _ hx5
  have k6 : ∀ b o, b ≠ e + 1 → b ≠ D → h5.get? b = some o → h6.get? b = some o := fun b o h1 h2 => hk6 b o h1 (fun o₀ dx q1 q2 => by rw [hx5] at q1; cases q1; cases q2; exact h2)
  have F6 := fr_but2 F5 hg1 hL1 hgD hLD k6
  have N6 : News g' L' h6 news := fun p hp => ⟨k6 _ _ (hnD p hp).1 (hnD p hp).2 (N5 p hp).1, (N5 p hp).2⟩
  have hxx : h6.get? (e + 1) = some (errObj D #[.ref h3.objs.size, .none, .none, .none, .bool false, .none]) := by
    rw [hx6]
    obtain ⟨c6, d6, dt6, s6⟩ := o6
    have := hD6 D rfl
    dsimp only at hc6 hd6 hs6 this
    subst hc6 hd6 hs6 this
    rfl
  obtain ⟨oD, hoD, hT⟩ : ∃ oD, h6.get? D = some oD ∧ TellsSN oD := by
    obtain ⟨ox, hox, hcx, _, hh⟩ := I6
    rw [hxx] at hox
    cases hox
    rcases hh with ⟨q, _⟩ | ⟨D', hD', hne, oD, es, ep, ho, hd, hk, hu, hf⟩
    · cases q
    · cases hD'
      refine ⟨oD, ho, es, ep, t1, hd, hk, hu, ?_⟩
      rw [hf]
      rfl
  have hne : e + 1 ≠ D := Ne.symm hDx
  have N7 : News g' L' h6 ((e + 1, errObj D #[.ref h3.objs.size, .none, .none, .none, .bool false, .none]) :: (D, oD) :: news) := fun p hp => by
    rcases List.mem_cons.mp hp with rfl | hp
    · exact ⟨hxx, Ne.symm hL1, hg1⟩
    · rcases List.mem_cons.mp hp with rfl | hp
      · exact ⟨hoD, Ne.symm hLD, hgD⟩
      · exact N6 p hp
  dsimp only
  refine wpAny_execs_nil ?_
  exact leaveK_ F6 N7 fun F N => ⟨rfl, hret _ _ _ _ _ _ F N hne hnD rfl rfl hT⟩
end
end Mine
end

-- part M11
section
open PySem PySem.W PySem.Calls PyProof.Rows PySem.W.X
set_option maxRecDepth 100000
set_option maxHeartbeats 4000000
namespace Mine
theorem afresh_M11 : True := by
  w_top off
  k_with_none
  trivial

/-- the raised object with its dict and its trail, whose flight is fl -/
def Trail (B h : Heap) (e D : Addr) (fl : Value) : Prop :=
  ∃ vs T oT ts, h.get? e = some (errObj D vs) ∧ vs[1]? = some (.ref T) ∧ B.get? T = none ∧ T ≠ e ∧ h.get? T = some oT ∧ oT.data = .fields ts ∧ ts[3]? = some fl
/-- it is in flight over the frames l; B stands -/
def Fly (B : Heap) (l : List Env) (e D : Addr) (fl : Value) (h : Heap) : Prop := B.StaysIn h ∧ B.get? e = none ∧ h.FunFrames B l ∧ Trail B h e D fl

section
variable {M : Model} {A : Around} {E : Value → Shared → Prop} {s : Shared} {B : Heap} {env : Env} {l outer : List Env} {L e D : Addr} {vs : Array Value} {fl head : Value}

theorem entry_D {hadNext : Bool} {Q : Unit → Shared → Prop} (hfr : A.frames = some (env :: outer)) (hl : s.heap.FunFrames B (env :: outer)) (hf : env.frame = some L)
    (he : s.heap.get? e = some (errObj D vs)) (hB : B.StaysIn s.heap) (hen : B.get? e = none) (hsz : 1 < vs.size)
    (h : ∀ h', Fly B (env :: outer) e D (rawInt L) h' → s.heap.UpToSlots h' → Q () { s with heap := h' }) :
    wpAny M A (do let a ← frameOf env; let pl ← entryPlaceOf L hadNext; let b ← EntryCells.newEntry head a .none (rawInt L) .none pl; setField (.ref e) 1 b) Q E s := by
  have hene : e ∉ (env :: outer).filterMap (·.frame) := fun hm => by
    obtain ⟨_, o, ho, hnf⟩ := hl.mem hm
    rw [he] at ho; cases ho; exact hnf vs rfl
  refine wpAny_bind (wpAny_frameOf_fun hfr hl hf fun h₁ hs₁ => wpAny_bind (wpAny_entryPlaceOf fun pl hpl => ?_))
  unfold EntryCells.newEntry newFields
  refine wpAny_bind (wpAny_newObj_type ?_ (hpl.sizeOk5 _ _ _ _ _))
  have he₁ : h₁.get? e = some (errObj D vs) := (hs₁.2.1 e hene).trans he
  have hB₁ : B.StaysIn h₁ := fun b o hb => (hs₁.2.1 b fun hm => by rw [(hl.mem hm).1] at hb; cases hb).trans (hB b o hb)
  generalize hoT : ({ cls := .type "traceback", dict := none, data := .fields ([head, .ref L, .none, rawInt L, .none] ++ (if pl.isEmpty then List.replicate 6 Value.none else pl)).toArray } : Obj) = oT
  have hTd : oT.isFreed = false := by rw [← hoT]; rfl
  have he₂ := Heap.get?_push_of_some (h := h₁) oT he₁
  refine wpAny_setField he₂ rfl hsz (h _ ?_ ?_)
  · have hTe : h₁.objs.size ≠ e := Nat.ne_of_gt (Heap.lt_size he₁)
    refine ⟨fun b o hb => ?_, hen, hl.of_keeps fun b o hb hnf => ?_, vs.setIfInBounds 1 (.ref h₁.objs.size), h₁.objs.size, oT, _, Heap.get?_update_self _ he₂ rfl, by simp [hsz], hB₁.fresh, hTe, (Heap.get?_update_other _ _ (Ne.symm hTe)).trans (Heap.get?_push_size h₁ hTd), by rw [← hoT], by first | (simp; done) | (rcases hpl with rfl | ⟨_, _, _, _, _, _, _, rfl⟩ <;> simp)⟩
    · rw [Heap.get?_update_other _ _ (fun q : e = b => by rw [← q, hen] at hb; cases hb)]
      exact Heap.get?_push_of_some _ (hB₁ b o hb)
    · obtain ⟨sl, hs⟩ := hs₁.2.2 b o hb
      refine ⟨_, (Heap.get?_update_other _ _ (fun q : e = b => ?_)).trans (Heap.get?_push_of_some _ hs), rfl⟩
      rw [← q, he] at hb; cases hb; exact hnf vs rfl
  · intro b o hb hnf
    obtain ⟨sl, hs⟩ := hs₁.2.2 b o hb
    refine ⟨sl, (Heap.get?_update_other _ _ (fun q : e = b => ?_)).trans (Heap.get?_push_of_some _ hs)⟩
    rw [← q, he] at hb; cases hb; exact hnf vs rfl

theorem note_first {Q : Unit → Shared → Prop} (hfr : A.frames = some (env :: outer)) (hl : s.heap.FunFrames B (env :: outer)) (hf : env.frame = some L)
    (he : s.heap.get? e = some (errObj D vs)) (hB : B.StaysIn s.heap) (hen : B.get? e = none) (h1 : vs[1]? = some .none)
    (h : ∀ h', Fly B (env :: outer) e D (rawInt L) h' → s.heap.UpToSlots h' → Q () { s with heap := h' }) :
    wpAny M A (noteFrame (.ref e) env) Q E s := by
  unfold noteFrame
  simp only [hf]
  refine wpAny_bind (wpAny_field he rfl h1 ?_)
  rw [if_neg (by decide)]
  exact entry_D hfr hl hf he hB hen (Array.getElem?_eq_some_iff.mp h1).1 h

/-- an object of the trail is changed: all else stands -/
theorem upd_trail {T : Addr} {oT : Obj} {ts : Array Value} {h : Heap} (hT : h.get? T = some oT) (hd : oT.data = .fields ts) (f : Obj → Obj) : h.UpToSlots (h.update T f) := fun b o hb hnf =>
  ⟨o.slots, (Heap.get?_update_other _ _ fun q : T = b => by rw [← q, hT] at hb; cases hb; exact hnf ts hd).trans hb⟩
theorem upd_frames {T : Addr} {oT : Obj} {ts : Array Value} {h : Heap} (hl : h.FunFrames B l) (hT : h.get? T = some oT) (hd : oT.data = .fields ts) (f : Obj → Obj) : (h.update T f).FunFrames B l :=
  hl.of_keeps fun b o hb hnf => ⟨o, (Heap.get?_update_other _ _ fun q : T = b => by rw [← q, hT] at hb; cases hb; exact hnf ts hd).trans hb, rfl⟩
theorem upd_stays {T : Addr} {h : Heap} (hB : B.StaysIn h) (hT : B.get? T = none) (f : Obj → Obj) : B.StaysIn (h.update T f) := fun b o hb =>
  (Heap.get?_update_other _ _ fun q : T = b => by rw [← q, hT] at hb; cases hb).trans (hB b o hb)

theorem note_on {Q : Unit → Shared → Prop} (hfr : A.frames = some (env :: outer)) (hf : env.frame = some L) (F : Fly B (env :: outer) e D .none s.heap)
    (h : ∀ h', Fly B (env :: outer) e D (rawInt L) h' → s.heap.UpToSlots h' → Q () { s with heap := h' }) :
    wpAny M A (noteFrame (.ref e) env) Q E s := by
  obtain ⟨hB, hen, hl, vs, T, oT, ts, he, h1, hnT, hTe, hT, hd, h3⟩ := F
  unfold noteFrame
  simp only [hf]
  refine wpAny_bind (wpAny_field he rfl h1 ?_)
  rw [if_pos (show (Value.ref T != Value.none) = true from by simp)]
  refine wpAny_bind (wpAny_field hT hd h3 ?_)
  rw [if_neg (show ¬ ((Value.none == rawInt L) = true) from by simp [rawInt])]
  refine wpAny_bind (wpAny_setField hT hd (Array.getElem?_eq_some_iff.mp h3).1 ?_)
  refine entry_D hfr (upd_frames hl hT hd _) hf ((Heap.get?_update_other _ _ hTe).trans he) (upd_stays hB hnT _) hen (Array.getElem?_eq_some_iff.mp h1).1 fun h' x1 x2 => h h' x1 ((upd_trail hT hd _).trans x2)

theorem land {Q : Unit → Shared → Prop} (F : Fly B l e D fl s.heap) (h : ∀ h', Fly B l e D .none h' → s.heap.UpToSlots h' → Q () { s with heap := h' }) :
    wpAny M A (setFlight (.ref e) none) Q E s := by
  obtain ⟨hB, hen, hl, vs, T, oT, ts, he, h1, hnT, hTe, hT, hd, h3⟩ := F
  have hsz : 3 < ts.size := (Array.getElem?_eq_some_iff.mp h3).1
  unfold setFlight
  refine wpAny_bind (wpAny_field he rfl h1 ?_)
  rw [if_pos (show (Value.ref T != Value.none) = true from by simp)]
  refine wpAny_setField hT hd hsz (h _ ⟨upd_stays hB hnT _, hen, upd_frames hl hT hd _, vs, T, _, _, (Heap.get?_update_other _ _ hTe).trans he, h1, hnT, hTe, Heap.get?_update_self _ hT (Obj.isFreed_of_fields (Obj.data_mapFields hd _)), Obj.data_mapFields hd _, by simp [hsz]⟩ (upd_trail hT hd _))

theorem leaves_first {Q : Unit → Shared → Prop} (hfr : A.frames = some (env :: outer)) (hl : s.heap.FunFrames B (env :: outer)) (hf : env.frame = some L)
    (he : s.heap.get? e = some (errObj D vs)) (hB : B.StaysIn s.heap) (hen : B.get? e = none) (h1 : vs[1]? = some .none)
    (h : ∀ h', Fly B outer e D .none h' → s.heap.UpToSlots h' → Q () { s with heap := h' }) : wpAny M A (leaving env (.ref e)) Q E s := by
  unfold leaving
  refine wpAny_bind (note_first hfr hl hf he hB hen h1 fun h₁ F₁ u₁ => land F₁ fun h₂ F₂ u₂ => h h₂ ⟨F₂.1, F₂.2.1, F₂.2.2.1.2.2, F₂.2.2.2⟩ (u₁.trans u₂))
theorem leaves_on {Q : Unit → Shared → Prop} (hfr : A.frames = some (env :: outer)) (hf : env.frame = some L) (F : Fly B (env :: outer) e D .none s.heap)
    (h : ∀ h', Fly B outer e D .none h' → s.heap.UpToSlots h' → Q () { s with heap := h' }) : wpAny M A (leaving env (.ref e)) Q E s := by
  unfold leaving
  refine wpAny_bind (note_on hfr hf F fun h₁ F₁ u₁ => land F₁ fun h₂ F₂ u₂ => h h₂ ⟨F₂.1, F₂.2.1, F₂.2.2.1.2.2, F₂.2.2.2⟩ (u₁.trans u₂))
end

/-- what a caller sees of a raise: all of G but its frames' slots, the news, the object in flight -/
def Flown (base G : Heap) (l : List Env) (e D : Addr) (news : List (Addr × Obj)) (h : Heap) : Prop :=
  (∃ B, base.StaysIn B ∧ (∀ b o, G.get? b = some o → b ∉ l.filterMap (·.frame) → B.get? b = some o) ∧ (∀ q ∈ news, B.get? q.1 = some q.2 ∧ G.get? q.1 = none) ∧ Fly B l e D .none h) ∧ G.UpToSlots h

section
variable {M : Model} {A : Around} {E : Value → Shared → Prop} {s' : Shared} {base g g₂ h : Heap} {outer : List Env} {L a e D : Addr} {m : Str → Option Value} {env : Env} {Q : Unit → Shared → Prop} {news : List (Addr × Obj)} {vs : Array Value}

theorem frames_mem {b : Addr} (hf : env.frame = some L) (hm : b ∈ (env :: outer).filterMap (·.frame)) : b = L ∨ b ∈ outer.filterMap (·.frame) := by
  obtain ⟨env', he, hb⟩ := List.mem_filterMap.mp hm
  rcases List.mem_cons.mp he with rfl | he
  · exact .inl (Option.some.inj (hf.symm.trans hb)).symm
  · exact .inr (List.mem_filterMap.mpr ⟨env', he, hb⟩)

/-- the first frame is left -/
theorem leave_first (K : Below A base outer g) (F : Fr g L s'.heap m) (N : News g L s'.heap ((e, errObj D vs) :: news)) (hne : ∀ p ∈ news, p.1 ≠ e) (h1 : vs[1]? = some .none)
    (hf : env.frame = some L) (hk : env.scope.kind = .function) (hQ : ∀ h', Flown base g outer e D news h' → Q () { s' with heap := h' }) :
    wpAny M (A.deeper env) (leaving env (.ref e)) Q E s' := by
  have K' := pushX K F hf hk
  have hE := N (e, errObj D vs) (.head _)
  have hL := kts_self F
  have gn : ∀ b o, g.get? b = some o → b ∉ outer.filterMap (·.frame) → (hideAll s'.heap (e :: (env :: outer).filterMap (·.frame))).get? b = some o := fun b o q nm => hideAll_get _ (F.keep b o q) fun hm => by
    rcases List.mem_cons.mp hm with z | z
    · rw [z, hE.2.2] at q; cases q
    · rcases frames_mem hf z with z | z
      · rw [z, hL] at q; cases q
      · exact nm z
  have st : base.StaysIn (hideAll s'.heap (e :: (env :: outer).filterMap (·.frame))) := fun b o q => gn b o (K.stays b o q) fun hm => by rw [(K.frames.mem hm).1] at q; cases q
  have hl : ∀ q ∈ news, (hideAll s'.heap (e :: (env :: outer).filterMap (·.frame))).get? q.1 = some q.2 ∧ g.get? q.1 = none := fun q hq => by
    have hN := N q (.tail _ hq)
    refine ⟨hideAll_get _ hN.1 fun hm => ?_, hN.2.2⟩
    rcases List.mem_cons.mp hm with z | z
    · exact hne q hq z
    · rcases frames_mem hf z with z | z
      · exact hN.2.1 z
      · obtain ⟨o, ho, _⟩ := (K.frames.mem z).2
        rw [hN.2.2] at ho; cases ho
  have hfrs : s'.heap.FunFrames (hideAll s'.heap (e :: (env :: outer).filterMap (·.frame))) (env :: outer) := funFrames_hide K'.frames fun env' he b hb => List.mem_cons_of_mem _ (List.mem_filterMap.mpr ⟨env', he, hb⟩)
  exact leaves_first K'.stack hfrs hf hE.1 (fun b o q => of_hideAll _ q) (hideAll_none _ (.head _)) h1 fun h' x1 x2 =>
    hQ h' ⟨⟨_, st, gn, hl, x1⟩, (Heap.UpToSlots.of_keeps F.keep).trans x2⟩

theorem leave_on (K : Below A base outer g) (F : Fr g L g₂ m) (R : Flown base g₂ (env :: outer) e D news s'.heap) (hf : env.frame = some L)
    (hQ : ∀ h', Flown base g outer e D news h' → Q () { s' with heap := h' }) : wpAny M (A.deeper env) (leaving env (.ref e)) Q E s' := by
  obtain ⟨⟨B, hB, hG, hl, hfl⟩, hsm⟩ := R
  exact leaves_on (Around.frames_deeper K.stack) hf hfl fun h' x1 x2 => hQ h' ⟨⟨B, hB, fun b o q nm => hG b o (F.keep b o q) (fun hm => by
    rcases frames_mem hf hm with z | z
    · rw [z, kts_self F] at q; cases q
    · exact nm z), fun q hq => ⟨(hl q hq).1, kts_none F.keep (hl q hq).2⟩, x1⟩, (Heap.UpToSlots.of_keeps F.keep).trans (hsm.trans x2)⟩
end
end Mine
end

-- part M12
section
open PySem PySem.W PySem.Calls PyProof.Rows PySem.W.X
set_option maxRecDepth 100000
set_option maxHeartbeats 4000000
namespace Mine

/-- an object to raise: a made BasicError -/
def RaisB (E : Value → Shared → Prop) (v : Value) (s₁ : Shared) : Prop :=
  ∃ e D vs KF, v = .ref e ∧ KF.In s₁.heap ∧ ktsIn KF 34 "BaseException" = true ∧ s₁.heap.get? e = some (errObj D vs) ∧ vs[1]? = some .none ∧ E (.ref e) s₁

section
variable {M : Model} {A : Around} {E : Value → Shared → Prop} {s : Shared} {env : Env}
theorem Raise_err {e : PySem.Expr} {pos : Pos} {Q : Flow → Shared → Prop} (hh : A.handled = none)
    (h : wpAny M A (eval e env) (RaisB E) E s) : wpAny M A (exec (.Raise (some e) none pos) env) Q E s := by
  show wpAny M A (do standAt pos; raiseStmt env (some (do let v ← eval e env; standAt pos; pure v)) none) Q E s
  refine wpAny_bind (wpAny_standAt ?_)
  unfold raiseStmt
  dsimp only
  refine wpAny_bind (wpAny_bind (wpAny_mono h (fun v s₁ h₁ => wpAny_bind (wpAny_standAt (wpAny_pure ?_))) fun _ _ x => x))
  obtain ⟨e, D, vs, KF, rfl, X, hin, he, h1, hE⟩ := h₁
  obtain ⟨nm, q, N, bs, bm, hdct, sn, sub, ab, col, dd, k0, k1, k2, k3, k5, newId, hC, hbase, _⟩ := kts_cls X hin
  have hcB : (Value.ref 34 :: bm).contains (.type "BaseException") = true := by rw [List.contains_cons, hbase, Bool.or_true]
  obtain ⟨hp, g, d, tk, os⟩ := s₁
  repeat (first | with_reducible refine wpAny_loadPart_at he ?_ | with_reducible refine wpAny_loadPart_at hC ?_ | (with_reducible refine wpAny_isSubtype_exc hC ?_; rw [hcB]) | rw [h1] | wp_step)
  exact wpAny_raiseNew_none hh hE
end

section
variable {w : World} {p : Program} {loose : List Str} {mean : ExcName → Option Value} {mg mb : Str → Option Value}
  {dp un : Nat} {gd : Option (List Code)} {cn : Str} {nm : List (Str × NameKind)} {ig ic : Bool} {mo : List (Str × Const)} {a : Addr} {ccd : Value} {cl : List (Str × Addr)} {outer : List Env} {A₀ : Around} {base h₀ : Heap} {L : Addr} {m : Str → Option Value} {s : Shared} {Q E : Value → Shared → Prop}
  {news rest : List (Addr × Obj)} {g : Obj → List (Addr × Obj)}

/-- BasicError("SN", x), made to be raised -/
theorem make_raise {x : Str} {t1 t2 : Tok}
    (B : Below A₀ base outer h₀) (F₀ : Fr h₀ L s.heap m) (X : (hd.heap_39 w.params).In h₀) (N : News h₀ L s.heap news) (T : Top p loose mean mg mb h₀)
    (hdp : dp + 40 < recursionLimit) (hun : un + 200 < cLine)
    (hE : ∀ h' tk' e D oD vs, Fr h₀ L h' m → News h₀ L h' ((e, errObj D vs) :: (D, oD) :: news) → (∀ p ∈ (D, oD) :: news, p.1 ≠ e) → vs[1]? = some .none → TellsSN oD → E (.ref e) { s with heap := h', toks := tk' }) :
    wpAny (model PySem.Challenge.rw_pq0156_01.row.toRowW.prog w) (ktrTop dp un gd cn (fsc nm ig ic mo) L a ccd cl outer) (call (.ref 34) [.str (Str.ofString "SN") t1, .str x t2]) (RaisB E) E s :=
  make_err B F₀ X N T hdp hun fun h' tk' e D oD vs F' N' hne hn hsz h1 hT => ⟨e, D, vs, _, rfl, X.keeps F'.keep, by kernel_rfl, N'.get (.head _), h1, hE h' tk' e D oD vs F' N' (fun p hp => by
    rcases List.mem_cons.mp hp with rfl | hp
    · exact Ne.symm hne
    · exact (hn p hp).1) h1 hT⟩
end
end Mine
end

-- part M13
section
open PySem PySem.W PySem.Calls PyProof.Rows
set_option maxRecDepth 100000
set_option maxHeartbeats 8000000
namespace Mine

section
variable {prog : Program} {w : World} {A : Around} {env : Env} {Q : Flow → Shared → Prop} {E : Value → Shared → Prop} {s : Shared} {h₀ : Heap} {L : Addr} {news : List (Addr × Obj)}
/-- a loop is left: all that it keeps is X -/
def Exit (h₀ : Heap) (L : Addr) (s : Shared) (news : List (Addr × Obj)) (X : (Str → Option Value) → Prop) (s₂ : Shared) : Prop :=
  ∃ h' tk' m', s₂ = { s with heap := h', toks := tk' } ∧ Fr h₀ L h' m' ∧ News h₀ L h' news ∧ X m'
theorem Exit.intro {h' : Heap} {X : (Str → Option Value) → Prop} {tk' : Nat} {m' : Str → Option Value} (F : Fr h₀ L h' m') (N : News h₀ L h' news) (hX : X m') : Exit h₀ L s news X { s with heap := h', toks := tk' } := ⟨h', tk', m', rfl, F, N, hX⟩
theorem ws2 {h' : Heap} {J : Nat → (Str → Option Value) → List (Addr × Obj) → Prop} {n n' tk : Nat} {m₂ : Str → Option Value} {nw : List (Addr × Obj)} (F : Fr h₀ L h' m₂) (N : News h₀ L h' nw) (hn : n' < n) (hJ : J n' m₂ nw) :
    WhileStep2 h₀ L s J Q n .next { s with heap := h', toks := tk } := ⟨h', tk, m₂, nw, n', rfl, F, N, hn, hJ⟩
theorem while_rule {test : PySem.Expr} {body : List Stmt} {pos : Pos} {m₀ : Str → Option Value} (J : Nat → (Str → Option Value) → Prop) (X : (Str → Option Value) → Prop) {n₀ : Nat}
    (F : Fr h₀ L s.heap m₀) (N : News h₀ L s.heap news) (hJ : J n₀ m₀)
    (hE : PassesOwn (model prog w) A env E)
    (turn : ∀ n m₁ h₁ tk₁, Fr h₀ L h₁ m₁ → News h₀ L h₁ news → J n m₁ →
      wpAny (model prog w) A (isTrue test env (eval test env)) (fun b s₂ =>
        if b = true then wpAny (model prog w) A (execs body env) (WhileStep2 h₀ L s (fun n m nw => nw = news ∧ J n m) Q n) E s₂ else Exit h₀ L s news X s₂) E { s with heap := h₁, toks := tk₁ })
    (done : ∀ h tk m, Fr h₀ L h m → News h₀ L h news → X m → Q .next { s with heap := h, toks := tk }) :
    wpAny (model prog w) A (exec (.While test body [] pos) env) Q E s := by
  refine While_inv2 (fun n m nw => nw = news ∧ J n m) F N ⟨rfl, hJ⟩ ?_ hE
  rintro n m₁ _ h₁ tk₁ F₁ N₁ ⟨rfl, J₁⟩
  refine wpAny_mono (turn n m₁ h₁ tk₁ F₁ N₁ J₁) (fun b s₂ h => ?_) fun _ _ h => h
  cases b with
  | true => exact h
  | false =>
    simp only [Bool.false_eq_true, if_false] at h ⊢
    obtain ⟨h', tk', m', rfl, F', N', hX⟩ := h
    exact done h' tk' m' F' N' hX
end


theorem Flown.sub {base G h : Heap} {l : List Env} {e D : Addr} {n₁ n₂ : List (Addr × Obj)} (F : Flown base G l e D n₁ h) (hn : ∀ p ∈ n₂, p ∈ n₁) : Flown base G l e D n₂ h :=
  let ⟨⟨B, a, b, c, d⟩, u⟩ := F
  ⟨⟨B, a, b, fun q hq => c q (hn q hq), d⟩, u⟩
theorem Flown.drop {base G h : Heap} {l : List Env} {e D : Addr} {a b : Addr × Obj} {n : List (Addr × Obj)} (F : Flown base G l e D (a :: b :: n) h) : Flown base G l e D (a :: n) h :=
  F.sub fun p hp => by
    rcases List.mem_cons.mp hp with rfl | hp
    · exact .head _
    · exact .tail _ (.tail _ hp)
theorem news_drop {h₀ h : Heap} {L : Addr} {a b : Addr × Obj} {n : List (Addr × Obj)} (N : News h₀ L h (a :: b :: n)) : News h₀ L h (a :: n) := fun p hp => N p (by
    rcases List.mem_cons.mp hp with rfl | hp
    · exact .head _
    · exact .tail _ (.tail _ hp))
theorem figs_le (row : Str) : leadN row + (figs row).length ≤ row.length := by
  have h1 : (figs row).length ≤ (row.cps.toList.drop (leadN row)).length := (List.takeWhile_prefix _).length_le
  have h2 : leadN row ≤ row.cps.toList.length := (List.takeWhile_prefix _).length_le
  rw [List.length_drop] at h1
  rw [len_eq]; omega
theorem numR_none {row : Str} (h : (figs row).length = 0) : numR row = .none := by
  unfold numR; rw [if_neg (by omega), if_pos h]
theorem numR_big {row : Str} (he : (figs row).length ≤ 5) (h0 : (figs row).length ≠ 0) (h : 65529 < numOf (figs row)) : numR row = .bad := by
  unfold numR; rw [if_neg (by omega), if_neg h0, if_pos h]
theorem numR_ok {row r : Str} (he : (figs row).length ≤ 5) (h0 : (figs row).length ≠ 0) (h : ¬ 65529 < numOf (figs row)) (hr : mkS (behind (row.cps.toList.drop (leadN row + (figs row).length))) = r) : numR row = .ok (numOf (figs row)) r := by
  unfold numR; rw [if_neg (by omega), if_neg h0, if_neg h, hr]
theorem numR_ok1 {row : Str} {k : Int} (he : (figs row).length ≤ 5) (h0 : (figs row).length ≠ 0) (h : ¬ 65529 < numOf (figs row)) (hk : k = ((leadN row + (figs row).length : Nat) : Int)) (hi : leadN row + (figs row).length < row.length)
    (hc : (Txt.item row k == Str.ofString " ") = true) : numR row = .ok (numOf (figs row)) (Txt.slice row (some (k + 1)) none) := by
  refine numR_ok he h0 h ?_
  have hc' := beq_iff_eq.mp ((item_blank hk hi true).mp hc)
  rw [slice_drop (i := leadN row + (figs row).length + 1) (by omega) (by omega)]
  have hh : (row.cps.toList.drop (leadN row + (figs row).length)).head? = some 32 := by
    rw [List.head?_drop, List.getElem?_eq_getElem (by rw [← len_eq]; exact hi)]
    rw [List.getD_eq_getElem?_getD, List.getElem?_eq_getElem (by rw [← len_eq]; exact hi)] at hc'
    exact congrArg some hc'
  unfold behind
  rw [if_pos hh, List.drop_drop]
theorem numR_ok0 {row : Str} {k : Int} (he : (figs row).length ≤ 5) (h0 : (figs row).length ≠ 0) (h : ¬ 65529 < numOf (figs row)) (hk : k = ((leadN row + (figs row).length : Nat) : Int)) (hi : leadN row + (figs row).length < row.length)
    (hc : (Txt.item row k == Str.ofString " ") = false) : numR row = .ok (numOf (figs row)) (Txt.slice row (some k) none) := by
  refine numR_ok he h0 h ?_
  have hc' := (item_blank hk hi false).mp hc
  rw [slice_drop hk (by omega)]
  have hh : (row.cps.toList.drop (leadN row + (figs row).length)).head? ≠ some 32 := by
    rw [List.head?_drop, List.getElem?_eq_getElem (by rw [← len_eq]; exact hi)]
    rw [List.getD_eq_getElem?_getD, List.getElem?_eq_getElem (by rw [← len_eq]; exact hi)] at hc'
    simpa using hc'
  unfold behind
  rw [if_neg hh]
theorem numR_ok9 {row : Str} {k : Int} (he : (figs row).length ≤ 5) (h0 : (figs row).length ≠ 0) (h : ¬ 65529 < numOf (figs row)) (hk : k = ((leadN row + (figs row).length : Nat) : Int)) (hi : ¬ leadN row + (figs row).length < row.length) :
    numR row = .ok (numOf (figs row)) (Txt.slice row (some k) none) := by
  refine numR_ok he h0 h ?_
  rw [slice_drop hk (figs_le row)]
  have hh : (row.cps.toList.drop (leadN row + (figs row).length)).head? ≠ some 32 := by
    rw [List.head?_drop, List.getElem?_eq_none (by rw [← len_eq]; omega)]
    simp
  unfold behind
  rw [if_neg hh]
theorem dig_of {c : Nat} (h1 : ¬ c < 48) (h2 : ¬ 57 < c) : isDig c = true := by simp [isDig]; omega
theorem nodig_of {c : Nat} (h : c < 48 ∨ 57 < c) : isDig c = false := by simp [isDig]; omega
theorem num_stop {row : Str} {j : Nat} {v : Int} (hle : leadN row + j ≤ row.length) (hdig : ∀ i < j, isDig (row.cps.toList.getD (leadN row + i) 0) = true) (hstop : leadN row + j < row.length → isDig (row.cps.toList.getD (leadN row + j) 0) = false)
    (hv : v = numOf ((row.cps.toList.drop (leadN row)).take j)) : (figs row).length = j ∧ v = numOf (figs row) := by
  have e := figs_len hle hdig hstop
  refine ⟨e, ?_⟩
  rw [figs_take, e]; exact hv
theorem num_more {row : Str} {j : Nat} (hle : leadN row + j < row.length) (hj : j ≤ 5) (h5 : 5 ≤ j) (hdig : ∀ i < j, isDig (row.cps.toList.getD (leadN row + i) 0) = true) (hd : isDig (row.cps.toList.getD (leadN row + j) 0) = true) : numR row = .bad := by
  have := figs_ge (j := j + 1) hle (fun i hi => by
    rcases Nat.lt_succ_iff_lt_or_eq.mp hi with q | rfl
    · exact hdig i q
    · exact hd)
  unfold numR
  rw [if_pos (by omega)]
theorem numOf_step {row : Str} {j : Nat} {v u : Int} (hle : leadN row + j < row.length) (hv : v = numOf ((row.cps.toList.drop (leadN row)).take j)) (hu : u = 10 * v + ((row.cps.toList.getD (leadN row + j) 0 : Nat) : Int) - 48) :
    u = numOf ((row.cps.toList.drop (leadN row)).take (j + 1)) := by
  rw [take_snoc (by rw [List.length_drop, ← len_eq]; omega), numOf_snoc, ← hv, getD_drop]; exact hu
theorem ten_pow {j : Nat} {v : Int} {c : Nat} (h0 : 0 ≤ v) (h1 : v < 10 ^ j) (a : ¬ c < 48) (b : ¬ 57 < c) : 0 ≤ 10 * v + (c : Int) - 48 ∧ 10 * v + (c : Int) - 48 < 10 ^ (j + 1) := by
  rw [Int.pow_succ]; omega

section
variable {w : World} {p : Program} {loose : List Str} {mean : ExcName → Option Value} {mg mb : Str → Option Value}
  {dp un : Nat} {gd : Option (List Code)} {cn : Str} {nm : List (Str × NameKind)} {ig ic : Bool} {mo : List (Str × Const)} {a : Addr} {ccd : Value} {cl : List (Str × Addr)} {outer : List Env} {A₀ : Around} {base h₀ : Heap} {L : Addr} {m : Str → Option Value} {s : Shared} {Q E : Value → Shared → Prop}
  {news rest : List (Addr × Obj)} {g : Obj → List (Addr × Obj)}

theorem afresh_M13 : True := by
  w_top off
  k_with_none
  trivial
theorem lines1_M13 : True := by
  k_with "mine k_room" => (ktr_room)
  k_with "exec Raise some none" => ((k_here; k_dflt (refine Raise_err (by rfl) ?_)))
  k_with "call ref" => ((k_here; k_dflt (refine' make_raise ?z3k1 ?z3k2 ?z3k3 ?z3k4 ?z3k5 ?z3k6 ?z3k7 ?_; (case z3k1 => k_asm); (case z3k2 => k_asm); (case z3k3 => k_asm); (case z3k4 => k_asm); (case z3k5 => k_asm); (case z3k6 => ktr_room); (case z3k7 => first | units_room | omega); k_whole); intro _ _ _ _ _ _ _ _ _ _ _))
  k_with "mine look" => (first | assumption | exact if_pos rfl | (refine (if_neg (by decide)).trans ?_; walk_at "mine look") | rfl)
  k_with "eval Name" => ((k_here; k_dflt (refine' PyProof.Rows.ld ?z5k1 ?z5k2 ?_; (case z5k1 => k_asm); (case z5k2 => walk_at "mine look"); k_whole)))
  k_with "loadName" => ((k_here; k_dflt (refine' PyProof.Rows.ldn ?z6k1 ?z6k2 ?_; (case z6k1 => k_asm); (case z6k2 => walk_at "mine look"); k_whole)))
  trivial

theorem num_spec {row : Str} {tr : Tok}
    (B : Below A₀ base outer h₀) (F : Fr h₀ L s.heap m) (X : (hd.heap_39 w.params).In h₀) (N : News h₀ L s.heap news) (T : Top p loose mean mg mb h₀)
    (hdp : dp + 60 < recursionLimit) (hun : un + 300 < cLine) (hlen : row.length ≤ 20)
    (hnone : numR row = .none → ∀ a t h' tk', Fr h₀ L h' m → News h₀ L h' ((a, tup [.none, .str row t]) :: news) → Q (.ref a) { s with heap := h', toks := tk' })
    (hok : ∀ v r, numR row = .ok v r → ∀ a t t' h' tk', Fr h₀ L h' m → News h₀ L h' ((a, tup [.int v t, .str r t']) :: news) → Q (.ref a) { s with heap := h', toks := tk' })
    (herr : numR row = .bad → ∀ e D oD g h' tk', Fr h₀ L g m → Flown base g (envX cn (fsc nm ig ic mo) L a ccd cl :: outer) e D ((D, oD) :: news) h' → TellsSN oD → E (.ref e) { s with heap := h', toks := tk' }) :
    wpAny (model PySem.Challenge.rw_pq0156_01.row.toRowW.prog w) (ktrTop dp un gd cn (fsc nm ig ic mo) L a ccd cl outer) (call (.ref 44) [.str row tr]) Q E s := by
  revert X; k_fill; intro X
  refine wpAny_call ?_
  k_dflt k_enter
  iterate 6 (first | (k_unfold; (try dsimp only)) | walk1)
  refine while_rule (J1 row tr) (X1 row tr (leadN row)) (n₀ := row.length) (by k_asm) (by k_asm) ⟨by walk_at "mine look", 0, _, _, by walk_at "mine look", rfl, Nat.zero_add _, (fun _ h => absurd h (Nat.not_lt_zero _))⟩ (by walk1) ?t1 ?d1
  case t1 =>
    rintro n m₁ h₁ tk₁ F₁ N₁ ⟨hrow, i, k, ti, hat, hk, hin, hbl⟩
    k_steps
    · have hi : i < row.length := by omega
      have hc := (item_blank hk hi true).mp (by assumption)
      refine ws2 (n' := n - 1) (by k_asm) (by k_asm) (by omega) ⟨rfl, by walk_at "mine look", i + 1, _, _, by walk_at "mine look", by omega, by omega, fun j hj => ?_⟩
      rcases Nat.lt_succ_iff_lt_or_eq.mp hj with q | rfl
      · exact hbl j q
      · exact beq_iff_eq.mp hc
    · have hi : i < row.length := by omega
      have hc := (item_blank hk hi false).mp (by assumption)
      have := lead_is (Nat.le_of_lt hi) hbl fun _ => by simpa using hc
      exact Exit.intro F₁ N₁ ⟨hrow, k, ti, hat, by omega⟩
    · have hi : ¬ i < row.length := by omega
      have := lead_is (by omega) hbl fun h => absurd h hi
      exact Exit.intro F₁ N₁ ⟨hrow, k, ti, hat, by omega⟩
  case d1 =>
    rintro h₁ tk₁ m₁ F₁ N₁ ⟨hrow, k₁, ti, hat, hk₁⟩
    have hle : leadN row ≤ row.length := by rw [len_eq]; exact (List.takeWhile_prefix _).length_le
    iterate 19 (first | (k_unfold; (try dsimp only)) | walk1)
    refine while_rule (J2 row tr (leadN row)) (X2 row tr (leadN row) (figs row).length (numOf (figs row))) (n₀ := row.length - leadN row) (by k_asm) (by k_asm) ⟨by walk_at "mine look", ⟨_, _, by walk_at "mine look", hk₁⟩, 0, _, _, _, _, by walk_at "mine look", by omega, by walk_at "mine look", by omega, by omega, (fun _ h => absurd h (Nat.not_lt_zero _)), (by rfl), (by decide), (by decide)⟩ (by walk1) ?t2 ?d2
    case t2 =>
      rintro n m₂ h₂ tk₂ F₂ N₂ ⟨hrow, ⟨kb, tb, hb, hkb⟩, j, k, v, t, t', hat, hk, hnum, hjn, hj5, hdig, hv, hv0, hv1⟩
      have hk' : k = ((leadN row + j : Nat) : Int) := by omega
      k_steps
      · have hi : leadN row + j < row.length := by omega
        obtain ⟨e1, e2⟩ := num_stop (Nat.le_of_lt hi) hdig (fun _ => nodig_of (.inl ((item_lt0 hk' hi).mp (by assumption)))) hv
        exact Exit.intro F₂ N₂ ⟨hrow, ⟨kb, tb, hb, hkb⟩, ⟨k, t, hat, by omega⟩, ⟨t', by rw [← e2]; exact hnum⟩, by omega⟩
      · have hi : leadN row + j < row.length := by omega
        obtain ⟨e1, e2⟩ := num_stop (Nat.le_of_lt hi) hdig (fun _ => nodig_of (.inr ((item_gt9 hk' hi).mp (by assumption)))) hv
        exact Exit.intro F₂ N₂ ⟨hrow, ⟨kb, tb, hb, hkb⟩, ⟨k, t, hat, by omega⟩, ⟨t', by rw [← e2]; exact hnum⟩, by omega⟩
      · have hi : leadN row + j < row.length := by omega
        have hbad := num_more hi hj5 (by omega) hdig (dig_of (fun q => (by assumption : ¬ (Txt.item row k).cps.toList < (Str.ofString "0").cps.toList) ((item_lt0 hk' hi).mpr q)) (fun q => (by assumption : ¬ (Str.ofString "9").cps.toList < (Txt.item row k).cps.toList) ((item_gt9 hk' hi).mpr q)))
        refine leave_first (by k_asm) (by assumption) (by assumption) (by assumption) (by assumption) rfl rfl fun h' R => ?_
        exact herr hbad _ _ _ _ _ _ (by k_asm) R.drop (by assumption)
      · have hi : leadN row + j < row.length := by omega
        have n1 := fun q => (by assumption : ¬ (Txt.item row k).cps.toList < (Str.ofString "0").cps.toList) ((item_lt0 hk' hi).mpr q)
        have n2 := fun q => (by assumption : ¬ (Str.ofString "9").cps.toList < (Txt.item row k).cps.toList) ((item_gt9 hk' hi).mpr q)
        refine ws2 (n' := n - 1) (by k_asm) (by k_asm) (by omega) ⟨rfl, by walk_at "mine look", ⟨kb, tb, by walk_at "mine look", hkb⟩, j + 1, _, _, _, _, by walk_at "mine look", by omega, by walk_at "mine look", by omega, by omega, ?_, ?_, ?_, ?_⟩
        · intro i hi2
          rcases Nat.lt_succ_iff_lt_or_eq.mp hi2 with q | rfl
          · exact hdig i q
          · exact dig_of n1 n2
        · refine numOf_step hi hv ?_
          rw [item_mk hk' hi]
          rfl
        · rw [item_mk hk' hi]
          exact (ten_pow hv0 hv1 n1 n2).1
        · rw [item_mk hk' hi]
          exact (ten_pow hv0 hv1 n1 n2).2
      · have hi : ¬ leadN row + j < row.length := by omega
        obtain ⟨e1, e2⟩ := num_stop (by omega) hdig (fun h => absurd h hi) hv
        exact Exit.intro F₂ N₂ ⟨hrow, ⟨kb, tb, hb, hkb⟩, ⟨k, t, hat, by omega⟩, ⟨t', by rw [← e2]; exact hnum⟩, by omega⟩
    case d2 =>
      rintro h₂ tk₂ m₂ F₂ N₂ ⟨hrow, ⟨kb, tb, hb, hkb⟩, ⟨k, t, hat, hk⟩, ⟨t', hnum⟩, he⟩
      have hk' : k = ((leadN row + (figs row).length : Nat) : Int) := by omega
      k_steps
      · exact hnone (numR_none (by omega)) _ _ _ _ (by assumption) (news_drop (by assumption))
      · refine leave_first (by k_asm) (by assumption) (by assumption) (by assumption) (by assumption) rfl rfl fun h' R => ?_
        exact herr (numR_big he (by omega) (by assumption)) _ _ _ _ _ _ (by k_asm) R.drop (by assumption)
      · refine hok _ _ (numR_ok1 he (by omega) (by assumption) hk' (by omega) (by assumption)) _ _ _ _ _ (by assumption) (news_drop (by assumption))
      · refine hok _ _ (numR_ok0 he (by omega) (by assumption) hk' (by omega) (by assumption)) _ _ _ _ _ (by assumption) (news_drop (by assumption))
      · refine hok _ _ (numR_ok9 he (by omega) (by assumption) hk' (by omega)) _ _ _ _ _ (by assumption) (news_drop (by assumption))
end
end Mine
end

-- part M14
section
open PySem PySem.W PySem.Calls PyProof.Rows PySem.W.X
set_option maxRecDepth 100000
set_option maxHeartbeats 4000000
namespace Mine
theorem afresh_M14 : True := by
  w_top off
  k_with_none
  trivial

section
variable {prog : Program} {w : World} {A₀ : Around} {E : Value → Shared → Prop} {s' : Shared} {base g G : Heap} {outer : List Env} {L a e D : Addr} {m : Str → Option Value} {name : Str} {scope : Scope} {cd : Value}
  {n : Str} {b₀ : Stmt} {suite : List Stmt} {pos np : Pos} {rest : List ExceptHandler} {Q : Flow → Shared → Prop} {news : List (Addr × Obj)} {KF : Frag}
  {p : Program} {loose : List Str} {mean : ExcName → Option Value} {mg mb : Str → Option Value} {x : Str}

/-- the raised object is caught by its class, under a name -/
theorem caught_B (R : Flown base G (envOf name scope L a cd :: outer) e D news s'.heap) (F : Fr g L G m) (K : Below A₀ base outer g) (XB : KF.In base) (TB : Top p loose mean mg mb base)
    (ex : nsIn KF mainGlobals x = some (some (.ref 34))) (q : ktsIn KF 34 "BaseException" = true)
    (k : ∀ h' g' vs tk, KtsTurn (outer.filterMap (·.frame)) g g' → Fr g' L h' (fun y => if y = n then some (.ref e) else m y) → News g' L h' ((e, errObj D vs) :: news) → Below A₀ base outer g' → KF.In g' → Top p loose mean mg mb g' →
      wpAny (model prog w) ((A₀.deeper (envOf name scope L a cd)).mark (some (.ref e))) (execs (b₀ :: suite) (envOf name scope L a cd))
        (fun f s₄ => wpAny (model prog w) (A₀.deeper (envOf name scope L a cd)) (do bindName (envOf name scope L a cd) n .none; unbindBehindTheSuite (envOf name scope L a cd) n pos) (fun _ s₅ => Q f s₅) E s₄)
        (AsSuiteRaised (model prog w) ((A₀.deeper (envOf name scope L a cd)).mark (some (.ref e))) (envOf name scope L a cd) n pos (notedBy (model prog w) ((A₀.deeper (envOf name scope L a cd)).mark (some (.ref e))) (envOf name scope L a cd) (cameBackBy (model prog w) (A₀.deeper (envOf name scope L a cd)) (envOf name scope L a cd) E)))
        { s' with heap := h', toks := tk })
    (hk : scope.kind = .function := by rfl) (hlo : (envOf name scope L a cd).kindOf n = some .local := by rfl) (hx : (envOf name scope L a cd).kindOf x = some .globalImplicit := by rfl) (hd : (x == ("__debug__" : Str)) = false := by decide) :
    wpAny (model prog w) (A₀.deeper (envOf name scope L a cd)) (noteFrame (.ref e) (envOf name scope L a cd))
      (fun _ s₂ => wpAny (model prog w) (A₀.deeper (envOf name scope L a cd)) (setFlight (.ref e) none) (fun _ s₃ =>
        wpAny (model prog w) (A₀.deeper (envOf name scope L a cd)) (handleBy (.ref e) (envOf name scope L a cd) (.ExceptHandler (some (.Name x np)) (some n) (b₀ :: suite) pos :: rest)) Q E s₃) E s₂) E s' := by
  obtain ⟨⟨B, hB, hBG, hl, hfl⟩, hsm⟩ := R
  have hL : B.get? L = none := by
    obtain ⟨_, ⟨L', _, hf, hn', _⟩, _⟩ := hfl.2.2.1
    obtain rfl : L = L' := Option.some.inj hf
    exact hn'
  refine note_on (Around.frames_deeper K.stack) rfl hfl fun h₄ hh₄ u₄ => land hh₄ fun h₅ hh₅ u₅ => ?_
  have hsm₅ := hsm.trans (u₄.trans u₅)
  obtain ⟨g₅, T₅, F₅, K₅⟩ := kts_ground K F hBG hh₅.1 hsm₅
  have X₅ : KF.In g₅ := XB.keeps K₅.stays
  have P₅ : TopRead p loose mg mb g₅ := topRead_of (TB.keeps K₅.stays)
  obtain ⟨nm, q', N, bs, bm, hdct, sn, sub, ab, col, dd, k0, k1, k2, k3, k5, newId, hC, hbase, hbT⟩ := kts_cls X₅ q
  have hC₅ := F₅.keep _ _ hC
  obtain ⟨ws, hob⟩ : ∃ ws, h₅.get? e = some (errObj D ws) := let ⟨_, _, _, vs, _, _, _, he, _⟩ := hh₅; ⟨vs, he⟩
  refine wpAny_handleBy_cons (codeAny_handlers_test (name_K F₅ X₅ P₅ ex ?_ hk hx hd)) (by intro q; cases q)
  refine wpAny_excMatches_sub_self hC₅ hob rfl hbase (codeAny_handlers_suite_as ?_)
  refine land hh₅ fun h₆ hh₆ u₆ => ?_
  obtain ⟨g₆, T₆, F₆, K₆⟩ := kts_ground K F hBG hh₆.1 (hsm₅.trans u₆)
  obtain ⟨vs, hoe⟩ : ∃ ws, h₆.get? e = some (errObj D ws) := let ⟨_, _, _, vs, _, _, _, he, _⟩ := hh₆; ⟨vs, he⟩
  have ne₆ : g₆.get? e = none := T₆.none_ _ (kts_fresh F hBG hh₆.2.1 fun o ho m => by
    obtain ⟨_, o', ho', hd⟩ := K.frames.mem m
    rw [ho] at ho'
    cases ho'
    obtain ⟨sl, hs⟩ := (hsm₅.trans u₆) _ _ (F.keep _ _ ho) hd
    rw [hoe] at hs
    exact hd vs (congrArg Obj.data (Option.some.inj hs)).symm)
  have N₆ : News g₆ L h₆ ((e, errObj D vs) :: news) := News.more F₆ (fun q hq => ⟨hh₆.1 _ _ (hl q hq).1, (fun z => by have := (hl q hq).1; rw [z, hL] at this; cases this), T₆.none_ _ (kts_none F.keep (hl q hq).2)⟩) hoe (fun es n q => by cases q) ne₆
  refine stN F₆ (news := (e, errObj D vs) :: news) N₆ (fun h₇ F₇ N₇ => ?_) hk hlo
  exact k h₇ g₆ vs _ T₆ F₇ N₇ K₆ (XB.keeps K₆.stays) (TB.keeps K₆.stays)
end

section
variable {prog : Program} {w : World} {A₀ A : Around} {s : Shared} {base h₀ : Heap} {L : Addr} {m : Str → Option Value} {env : Env} {news : List (Addr × Obj)} {K : Frag} {p : Program} {loose : List Str} {mean : ExcName → Option Value} {mg mb : Str → Option Value}
    {R : Result → Shared → Prop} {name qual : Str} {params : Arguments} {body : List Stmt} {scope : Scope} {dV kV doc pm cdv ct oc : Value} {an od : Option Addr} {osl : Array (Option Value)} {f : Addr} {args : Args} {binds : List (Str × Value)}

/-- a def is entered from the law's own frame; at its end that frame's slots may be others -/
theorem enter_S0 (B : Below A₀ base [] h₀) (F : Fr h₀ L s.heap m) (X₀ : K.In h₀) (N : News h₀ L s.heap news) (T : Top p loose mean mg mb h₀) (hA : A.frames = some [env]) (hf : env.frame = some L) (hke : env.scope.kind = .function)
    (ho : K.lookup f = some ⟨oc, od, .func (fnOf name qual params body scope dV kV doc pm an cdv ct), osl⟩) (hcd : codeIn K cdv qual = true) (hroom : A.depth < recursionLimit)
    (hbind : BindsTo s (fnOf name qual params body scope dV kV doc pm an cdv ct) args binds) (hloc : ∀ y ∈ binds, scope.names.lookup y.1 = some .local)
    (h : ∀ g L' h₁, Fr h₀ L g m → Fr g L' h₁ (fun y => binds.reverse.lookup y) → News g L' h₁ news → Below A base [env] g → K.In g → Top p loose mean mg mb g → (∀ p ∈ news, p.1 < L') →
      wpAny (model prog w) (A.deeper (envOf qual scope L' f cdv)) (execs body (envOf qual scope L' f cdv))
        (fun fl s' => LeaveS0 ([env].filterMap (·.frame)) h₀ L m g R (match fl with | .ret v => v | _ => .none) s')
        (fun e s' => wpAny (model prog w) (A.deeper (envOf qual scope L' f cdv)) (leaving (envOf qual scope L' f cdv) e) (fun _ s'' => R (.error e) s'') (fun e' s'' => R (.error e') s'') s')
        { s with heap := h₁, toks := s.toks + binds.length })
    (hcell : ∀ x ∈ scope.names, x.2 ≠ .cell := by decide) (hco : scope.isCoroutine = false := by rfl) (hgen : scope.isGenerator = false := by rfl) (hk : scope.kind = .function := by rfl) : codeAny (model prog w) A (.call (.ref f) args) R s := by
  obtain ⟨FG, BG, st, _⟩ := groundX (R := R) B F N hA hf hke
  have nL₀ : h₀.get? L = none := kts_self F
  refine codeAny_call_def (fd := fnOf name qual params body scope dV kV doc pm an cdv ct) (body := body) (binds := binds) hroom ((X₀.keeps F.keep) _ _ ho) rfl (T.nolimit.keeps F.keep) (codeRec_of (X₀.keeps F.keep) hcd) rfl hbind hcell hloc (fun h₁ hns hk₁ => ?_) hco hgen hk
  refine wpAny_mono (h _ s.heap.objs.size h₁ FG ⟨hns, fun b o e => hk₁ b o (of_hideAll _ e), Nat.le_of_eq (hideAll_size _ _)⟩
    (fun p hp => ⟨hk₁ _ _ (N p hp).1, Nat.ne_of_lt (Heap.lt_size (N p hp).1), hideAll_none _ (List.mem_map_of_mem hp)⟩) BG (X₀.keeps st) (T.keeps st) (fun p hp => Heap.lt_size (N p hp).1)) (fun fl s' hl => ?_) fun _ _ y => y
  obtain ⟨g', L', m', news', T', F', N', k⟩ := hl
  obtain ⟨oL, es, ep, hLg, hLd, hLk, hLf⟩ := FG.ns
  obtain ⟨sl, hs⟩ := T'.up hLg
  refine k ⟨⟨_, es, ep, F'.keep _ _ hs, hLd, hLk, hLf⟩, fun b o e => F'.keep b o (T'.other b o (st b o e) (fun q => by
    rcases frames_mem hf q with z | z
    · rw [z, nL₀] at e; cases e
    · simp at z)), F.above⟩ fun p hp => ⟨(N' p hp).1, fun q => ?_, ?_⟩
  · have := (N' p hp).2.2; rw [q, hs] at this; cases this
  · cases q : h₀.get? p.1 with
    | none => rfl
    | some o =>
      obtain ⟨sl', hs'⟩ := T'.up (st _ _ q)
      have := (N' p hp).2.2
      rw [hs'] at this
      cases this
end
end Mine
end

-- part M15
section
open PySem PySem.W PySem.Calls PyProof.Rows PySem.W.X
set_option maxRecDepth 100000
set_option maxHeartbeats 4000000
namespace Mine

section
variable {prog : Program} {w : World} {A : Around} {E : Value → Shared → Prop} {h : Heap} {g : Array GenState} {d : Drawn} {t : Nat} {os : OsState} {x dx : Addr} {o : Obj} {v : Value} {name : Str}
  {nm q : Str} {C N : Addr} {bs bmB : List Value} {hdct : Bool} {sn : List Str} {sub : List Value} {ab : Bool} {col : Option Bool} {dd : Option Addr} {k0 k1 k2 k3 k5 : Option Value} {B newId : String} {mN mA : Str → Option Value}

theorem own_check {M : Model} {nameV : Value} {Q : Unit → Shared → Prop} (FB : ExcAttrBase B bmB) (hC : h.get? C = some (excClassObj nm q C N bs bmB hdct sn sub ab col dd k0 k1 k2 k3 k5 newId))
    (hx : h.get? x = some o) (hc : o.cls = .ref C) (hq : Q () ⟨h, g, d, t, os⟩) : wpAny M A (checkBuiltinCall "BaseException.__getattribute__" ⟨[.ref x, nameV], []⟩) Q E ⟨h, g, d, t, os⟩ := by
  have hk : builtinKind "BaseException.__getattribute__" = some .slot := by decide +kernel
  have hsplit : splitId "BaseException.__getattribute__" = some ("BaseException", "__getattribute__") := by decide +kernel
  have hcB : (Value.ref C :: bmB).contains (.type "BaseException") = true := by rw [List.contains_cons, FB.hasBase]; exact Bool.or_true _
  have ha := F.args_bexc_ga (.ref x) nameV
  simp only [checkBuiltinCall, hk, hsplit]
  refine wpAny_bind ?_
  unfold isInstance
  repeat (first | (with_reducible refine wpAny_loadPart_at hx ?_; rw [hc]) | (with_reducible refine wpAny_isSubtype_exc hC ?_; rw [hcB]) | wp_step)
  exact hq

/-- a name of a raised object, read out of its dict -/
theorem own_attr {expr : Bool} {Q : Value → Shared → Prop} (FB : ExcAttrBase B bmB) (hC : h.get? C = some (excClassObj nm q C N bs bmB true sn sub ab col dd k0 k1 k2 k3 k5 newId)) (hN : h.Ns N mN)
    (h1 : mN "__getattribute__" = none) (h2 : mN "__getattr__" = none) (h3 : mN name = none) (hB : typeLookup (.type B) name = pure none)
    (hx : h.get? x = some o) (hc : o.cls = .ref C) (hnc : ∀ c, o.data ≠ .cls c) (hdx : o.dict = some dx) (hns : h.Ns dx mA) (hv : mA name = some v) (hh : handedOut v = pure v) (hq : Q v ⟨h, g, d, t + 1, os⟩) :
    wpAny (model prog w) A (getAttr (.ref x) name expr) Q E ⟨h, g, d, t, os⟩ := by
  have f3 := FB.ga.bind (.ref x)
  have hx0 : (expr && onTheHeap (Value.builtin "BaseException.__getattribute__")) = false := by cases expr <;> rfl
  have hx2 : (Value.builtin "BaseException.__getattribute__" == Value.builtin "object.__getattribute__") = false := by decide +kernel
  have hx1 : (onTheHeap (Value.ref C) && Value.builtin "BaseException.__getattribute__" == Value.builtin "object.__getattribute__") = false := by rw [hx2]; rfl
  unfold getAttr getAttrBy
  repeat (any_goals (first | assumption | (with_reducible refine wpAny_loadPart_at hx ?_; rw [hc]) | (with_reducible refine wpAny_typeLookup_exc hC hN FB.mro FB.ga.lookup ?_; rw [h1]) | (with_reducible refine wpAny_typeLookup_exc hC hN FB.mro FB.noGetattr ?_; rw [h2]) | wp_step))
  refine codeAny_call_builtin FB.ga.plain F.entry_bexc_ga (own_check FB hC hx hc ?_)
  unfold Builtin.«object.__getattribute__»
  repeat (first | (with_reducible refine wpAny_loadPart_at hx ?_; rw [hc]) | (with_reducible refine wpAny_typeLookup_exc hC hN FB.mro hB ?_; rw [h3]) | wp_step)
  split
  · rename_i c hcd
    exact absurd hcd (hnc c)
  unfold instanceDict
  repeat (first | (with_reducible refine wpAny_loadPart_at hx ?_; rw [hc]) | with_reducible refine wpAny_loadPart_at hC ?_ | wp_step)
  rw [hdx]
  repeat (first | (with_reducible refine wpAny_nsGet hns ?_; rw [hv]) | wp_step)
  exact hq
end
end Mine
end

-- part M16
section
open PySem PySem.W PySem.Calls PyProof.Rows PySem.W.X
set_option maxRecDepth 100000
set_option maxHeartbeats 4000000
namespace Mine

section
variable {w : World} {p : Program} {loose : List Str} {mean : ExcName → Option Value} {mg mb : Str → Option Value}
  {dp un : Nat} {gd : Option (List Code)} {cn : Str} {nm : List (Str × NameKind)} {ig ic : Bool} {mo : List (Str × Const)} {a : Addr} {ccd : Value} {cl : List (Str × Addr)} {A₀ : Around} {base h₀ : Heap} {L : Addr} {m : Str → Option Value} {s : Shared} {Q E : Value → Shared → Prop}
  {news rest : List (Addr × Obj)}
theorem afresh_M16 : True := by
  w_top off
  k_with_none
  trivial
theorem lines1_M16 : True := by
  k_with "mine k_room" => (ktr_room)
  trivial

theorem heard_spec {task : Addr} {fto : Value} {ftd : Option Addr} {fts : Array (Option Value)} {fd : FuncData} {bad : Prop} {Rel : Value → List (Addr × Obj) → Prop}
    (B : Below A₀ base [] h₀) (F : Fr h₀ L s.heap m) (X : (hd.heap_39 w.params).In h₀) (N : News h₀ L s.heap news) (T : Top p loose mean mg mb h₀)
    (XB : (hd.heap_39 w.params).In base) (TB : Top p loose mean mg mb base) (hdp : dp + 1 < recursionLimit) (hft : (task, (⟨fto, ftd, .func fd, fts⟩ : Obj)) ∈ news)
    (hcall : ∀ (g' h' : Heap) (L' : Addr) (m' : Str → Option Value) (tk' : Nat) (nmH : List (Str × NameKind)) (moH : List (Str × Const)) (Q' E' : Value → Shared → Prop),
      Below (ktrTop dp un gd cn (fsc nm ig ic mo) L a ccd cl []) base [envX cn (fsc nm ig ic mo) L a ccd cl] g' → Fr g' L' h' m' → (hd.heap_39 w.params).In g' → News g' L' h' news → Top p loose mean mg mb g' → (∀ p ∈ news, p.1 < L') →
      (∀ v h'' tk'' news'', Rel v news'' → Fr g' L' h'' m' → News g' L' h'' news'' → Q' v { s with heap := h'', toks := tk'' }) →
      (∀ e D oD G h'' tk'', bad → Fr g' L' G m' → Flown base G [envX (Str.ofString "_law_heard") (fsc nmH false false moH) L' 82 (.ref 81) [], envX cn (fsc nm ig ic mo) L a ccd cl] e D ((D, oD) :: news) h'' → TellsSN oD → E' (.ref e) { s with heap := h'', toks := tk'' }) →
      wpAny (model PySem.Challenge.rw_pq0156_01.row.toRowW.prog w) (ktrTop (dp + 1) (un + 3) gd (Str.ofString "_law_heard") (fsc nmH false false moH) L' 82 (.ref 81) [] [envX cn (fsc nm ig ic mo) L a ccd cl]) (call (.ref task) []) Q' E' { s with heap := h', toks := tk' })
    (hret : ∀ v h' tk' news', Rel v news' → Fr h₀ L h' m → News h₀ L h' news' → Q v { s with heap := h', toks := tk' })
    (hbad : bad → ∀ t h' tk', Fr h₀ L h' m → News h₀ L h' news → Q (.str (Str.ofString "SN") t) { s with heap := h', toks := tk' }) :
    wpAny (model PySem.Challenge.rw_pq0156_01.row.toRowW.prog w) (ktrTop dp un gd cn (fsc nm ig ic mo) L a ccd cl []) (call (.ref 82) [.ref task]) Q E s := by
  revert X; k_fill; intro X
  refine wpAny_call ?_
  k_dflt (refine' enter_S0 B F X N T ?kA ?kF ?kK ?k6 ?k7 ?k8 ?k9 ?kB ?_ ?c1 ?c2 ?c3 ?c4)
  case kA => exact rfl
  case kF => exact rfl
  case kK => exact rfl
  case k6 => k_is
  case k7 => k_is
  case k8 => ktr_room
  case k9 => first | exact BindsTo.of_eq rfl | exact binds_K (X.keeps F.keep) rfl (by k_is) rfl rfl rfl
  case kB => exact locs rfl
  case c1 => decide
  case c2 => exact rfl
  case c3 => exact rfl
  case c4 => exact rfl
  intro g' L' h' FG' F' N' B' X2 T' l1
  dsimp only
  k_steps
  refine callWith_F0 (.of N' hft) ?_
  refine hcall g' h' L' _ _ _ _ _ _ B' F' X2 N' T' l1 (fun v h2 tk2 n2 hR F2 N2 => ?_) (fun e D oD G h2 tk2 hb FG2 Fl hT => ?_)
  · exact leaveS0_ F2 N2 KtsTurn.refl fun F N => hret _ _ _ _ hR F N
  · refine caught_B (KF := hd.heap_39 w.params) Fl FG2 B' XB TB (by k_is) (by kernel_rfl) (fun h3 g3 vs tk3 T3 F3 N3 B3 X3 TT3 => ?_)
    k_steps
    have KX3 := X3.keeps F3.keep
    have hn3 : h3.Ns 33 (h3.nsMap 33) := .of_isNs (isNs_of_in KX3 (by kernel_rfl))
    obtain ⟨es, ep, t, hd, hk, hu, hv⟩ := hT
    have hns : h3.Ns D (fun n => nsFind es n) := ⟨oD, es, ep, N3.get (.tail _ (.head _)), hd, hk, fun _ => rfl⟩
    refine own_attr PySem.F.attrBase_Exception (KX3 34 _ rfl) hn3 (ns_none_of KX3 hn3 (by k_is)) (ns_none_of KX3 hn3 (by k_is)) (ns_none_of KX3 hn3 (by k_is)) (by rw [typeLookup_type, builtinLookup_eq_fast]; kernel_rfl) (N3.get (.head _)) rfl (by intro c h; cases h) rfl hns hv rfl ?_
    dsimp only
    refine wpAny_nameGoes rfl F3.ns rfl fun h4 m4 hn4 hs4 => ?_
    refine leaveS0_ (F3.set hn4 hs4) (N3.set hs4) T3 fun F N => hbad hb _ _ _ F fun p hp => N p (.tail _ (.tail _ hp))
end
end Mine
end

-- part M17
section
open PySem PySem.W PySem.Calls PyProof.Rows PySem.W.X LCg
set_option maxRecDepth 100000
set_option maxHeartbeats 4000000
namespace Mine
theorem afresh_M17 : True := by
  w_top off
  k_with_none
  trivial

section
variable {prog : Program} {w : World} {A : Around} {E : Value → Shared → Prop} {s : Shared} {h₀ : Heap} {L : Addr} {m : Str → Option Value} {env : Env}

/-- what a text's enumeration draws -/
def Drawn1 (x : Str) (i : Nat) (v : Value) : Prop := ∃ c u, x.cps[i]? = some c ∧ v = .str ⟨#[c]⟩ u
theorem draws_str (hh : A.handled = none) (it : Addr) (x : Str) (t : Tok) : Draws prog w A it [it] x.cps.size (Drawn1 x) (fun i h => h.IsStrIter it (strIterType x) x t i) := by
  unfold strIterType
  split
  · exact Draws.strAscii hh it x t
  · exact Draws.strWide hh it x t

/-- the enumeration of a text, made; what its comprehension's turns do -/
def EnumOf (prog : Program) (w : World) (A : Around) (h₀ : Heap) (L : Addr) (m : Str → Option Value) (env : Env) (elt : PySem.Expr) (y z : Str) (scope : Scope) (cl : List (Str × Addr)) (Q : Value → Shared → Prop) (xv : Value) (s₁ : Shared) : Prop :=
  ∃ (e it : Addr) (x : Str) (t : Tok) (news : List (Addr × Obj)) (Good : Nat → List Value → Prop), xv = .ref e ∧ A.handled = none ∧ IsEnum s₁.heap e it 0 .none ∧ s₁.heap.IsStrIter it (strIterType x) x t 0 ∧ e ≠ it ∧
    (∀ b, b = e ∨ b = it → h₀.get? b = none ∧ L ≠ b ∧ ∀ p ∈ news, p.1 ≠ b) ∧ Fr h₀ L s₁.heap m ∧ News h₀ L s₁.heap news ∧ x.cps.size ≤ sizeLine ∧ Good 0 [] ∧
    (∀ i ys c u v C oC D m₂ h tk (E' : Value → Shared → Prop), i < x.cps.size → x.cps[i]? = some c → Good i ys → NsObj oC m₂ → m₂ y = some (.int i v) → m₂ z = some (.str ⟨#[c]⟩ u) → Fr h₀ L h m → News h₀ L h ((C, oC) :: (D, lst ys) :: news) →
      wpAny (model prog w) A (eval elt (compEnvC scope cl C env)) (fun r s₄ => ∃ h₄ tk₄, s₄ = { s₁ with heap := h₄, toks := tk₄ } ∧ (∀ b o, h.get? b = some o → h₄.get? b = some o) ∧ Good (i + 1) (ys ++ [r])) E' { s₁ with heap := h, toks := tk }) ∧
    ∀ D ys h tk, Good x.cps.size ys → Fr h₀ L h m → News h₀ L h ((D, lst ys) :: news) → Q (.ref D) { s₁ with heap := h, toks := tk }

theorem ListComp_enum {elt iter : PySem.Expr} {y z : Str} {py pz tp : Pos} {tkk} {scope : Scope} {cl : List (Str × Addr)} {pos : Pos} {Q : Value → Shared → Prop}
    (hclos : closureFor scope env = pure cl) (hcell : ∀ y ∈ scope.names, y.2 ≠ .cell) (hkind : scope.kind = .function)
    (hnames : ∀ y ∈ scope.names, y.2 = .local → scope.names.lookup y.1 = some .local) (hy : scope.names.lookup y = some .local) (hz : scope.names.lookup z = some .local) (hyz : y ≠ z)
    (h : wpAny (model prog w) A (eval iter env) (EnumOf prog w A h₀ L m env elt y z scope cl Q) E s)
    (hs : ∀ x, foldedSetIterable iter env x = pure x := by intro _; rfl) :
    wpAny (model prog w) A (eval (.ListComp elt [⟨.Tuple [.Name y py, .Name z pz] tkk tp, iter, [], 0⟩] scope pos) env) Q E s := by
  rw [eval_ListComp]
  refine wpAny_comprehension_free (use := none) rfl hs hclos hkind hnames (wpAny_mono h (fun xv s₁ h₁ => ?_) fun _ _ e => e)
  obtain ⟨e, it, x, t, news, Good, rfl, hh, he, hit, hne, hfr, F, N, hsz, hG, turn, fin⟩ := h₁
  refine wpAny_pyIter_enum he ?_
  have W := WalksT.enumerateD (draws_str (prog := prog) (w := w) (A := A.in1) hh it x t) e hne (by simpa using hne) (by simp)
  obtain ⟨hE, hI⟩ : (h₀.get? e = none ∧ L ≠ e ∧ ∀ p ∈ news, p.1 ≠ e) ∧ (h₀.get? it = none ∧ L ≠ it ∧ ∀ p ∈ news, p.1 ≠ it) := ⟨hfr e (.inl rfl), hfr it (.inr rfl)⟩
  have elt' : e < s₁.heap.objs.size := Heap.lt_size he
  have ilt' : it < s₁.heap.objs.size := let ⟨_, ho, _⟩ := hit; Heap.lt_size ho
  refine wpAny_newObj_type (wpAny_newFunctionEnv hcell (by intro y hy; simp at hy) (fun h₁ hns₁ hsb₁ => ?_) hkind)
  dsimp only at hns₁ hsb₁ ⊢
  generalize hH : s₁.heap.push { cls := .type "list", dict := none, data := .seq ([] : List Value).toArray } = H at hns₁ hsb₁ ⊢
  have hC : H.objs.size = s₁.heap.objs.size + 1 := by rw [← hH, Heap.size_push]
  have below : ∀ b, b < s₁.heap.objs.size → b ≠ H.objs.size ∧ b ≠ s₁.heap.objs.size := fun b hb => ⟨by omega, by omega⟩
  have hDC : s₁.heap.objs.size ≠ H.objs.size := by omega
  have old : ∀ b o, s₁.heap.get? b = some o → h₁.get? b = some o := fun b o q => hsb₁.extBut b o (below b (Heap.lt_size q)).1 (Heap.get?_push_of_some _ (hH ▸ Heap.get?_push_of_some _ q))
  have hacc : h₁.get? s₁.heap.objs.size = some (lst []) := hsb₁.extBut _ _ hDC (Heap.get?_push_of_some _ (hH ▸ Heap.get?_push_size _ rfl))
  have fresh₀ : ∀ a, s₁.heap.objs.size ≤ a → h₀.get? a = none := fun a ha => by
    cases q : h₀.get? a with
    | none => rfl
    | some o' => exact absurd (Heap.lt_size (F.keep a o' q)) (Nat.not_lt.mpr ha)
  have hD₀ : h₀.get? s₁.heap.objs.size = none := fresh₀ _ (Nat.le_refl _)
  have hC₀ : h₀.get? H.objs.size = none := fresh₀ _ (by omega)
  have hDL : s₁.heap.objs.size ≠ L := Ne.symm (below L F.ns.lt).2
  have hCL : H.objs.size ≠ L := Ne.symm (below L F.ns.lt).1
  have hCe := below e elt'
  have hCi := below it ilt'
  have nb : ∀ p ∈ news, p.1 ≠ H.objs.size ∧ p.1 ≠ s₁.heap.objs.size := fun p hp => below _ (Heap.lt_size (N p hp).1)
  have hst₁ : (∃ old, IsEnum h₁ e it 0 old) ∧ h₁.IsStrIter it (strIterType x) x t 0 := ⟨⟨_, old _ _ he⟩, let ⟨o, ho, r⟩ := hit; ⟨o, old _ _ ho, r⟩⟩
  -- what a change outside wr keeps
  have keepF : ∀ {h h' : Heap}, Fr h₀ L h m → (∀ b o, b ∉ [e, it] → h.get? b = some o → h'.get? b = some o) → Fr h₀ L h' m := fun F k =>
    ⟨F.ns.at' fun o q => k L o (by simp; exact ⟨hE.2.1, hI.2.1⟩) q, fun b o q => k b o (fun hm => by
      rcases List.mem_cons.mp hm with rfl | hm
      · rw [hE.1] at q; cases q
      · rw [List.mem_singleton.mp hm, hI.1] at q; cases q) (F.keep b o q), F.above⟩
  have keepN : ∀ {h h' : Heap} {ys : List Value}, News h₀ L h ((s₁.heap.objs.size, lst ys) :: news) → (∀ b o, b ∉ [e, it] → h.get? b = some o → h'.get? b = some o) → News h₀ L h' ((s₁.heap.objs.size, lst ys) :: news) := fun N k p hp =>
    ⟨k _ _ (by
      rcases List.mem_cons.mp hp with rfl | hp
      · simp; exact ⟨Ne.symm hCe.2, Ne.symm hCi.2⟩
      · simp; exact ⟨hE.2.2 p hp, hI.2.2 p hp⟩) (N p hp).1, (N p hp).2⟩
  have loop : ∀ s₃ : Shared, s₃ = { s₁ with heap := h₁, toks := s₁.toks + ([] : List (Str × Value)).length } →
      codeAny (model prog w) A (.compLoop (.ListComp elt [⟨.Tuple [.Name y py, .Name z pz] tkk tp, iter, [], 0⟩] scope pos) 0 (.ref e) (.ref s₁.heap.objs.size) (compEnvC scope cl H.objs.size env))
        (compPost (model prog w) A E none Q (.ref s₁.heap.objs.size) H.objs.size) s₃ := by
    rintro s₃ rfl
    refine LCp.codeAny_compLoop_pair
      (fun k s' => ∃ h' tk i ys m', s' = { s₁ with heap := h', toks := tk } ∧ i ≤ x.cps.size ∧ k = x.cps.size + 1 - i ∧ ys.length = i ∧ ((∃ old, IsEnum h' e it i old) ∧ h'.IsStrIter it (strIterType x) x t i) ∧ Fr h₀ L h' m ∧ h'.Ns H.objs.size m' ∧ News h₀ L h' ((s₁.heap.objs.size, lst ys) :: news) ∧ Good i ys) ?_ (x.cps.size + 1)
      ⟨h₁, _, 0, [], _, rfl, Nat.zero_le _, rfl, rfl, hst₁, F.keeps old, hns₁, fun p hp => ?_, hG⟩
    · rintro k s' ⟨h', tk, i, ys, m', rfl, hi, rfl, hyl, hst', F', hn', N', G'⟩
      by_cases hlt : i < x.cps.size
      · refine W.item i _ _ _ hlt hst' fun T vals h₂ tk₂ hPt hTs hT hmid hk₂ => ?_
        obtain ⟨tv, xv, ⟨c, u, hc, rfl⟩, rfl⟩ := hPt
        refine W.go _ _ _ i T _ _ _ hmid fun h₃ hst₃ hk₃ => ?_
        have hTw := W.apart _ _ _ hmid
        obtain ⟨oT, hoT, hTc, nT, hTd⟩ := hT
        have ht : IsTup h₃ T #[.int i tv, .str ⟨#[c]⟩ u] := ⟨oT, hk₃ _ _ hTw hoT, hTc, nT, hTd⟩
        have F₃ := keepF (keepF F' hk₂) hk₃
        have N₃ := keepN (keepN N' hk₂) hk₃
        have cw : H.objs.size ∉ [e, it] := by simp; exact ⟨Ne.symm hCe.1, Ne.symm hCi.1⟩
        have hn₃ : h₃.Ns H.objs.size m' := (hn'.at' fun o q => hk₂ _ o cw q).at' fun o q => hk₃ _ o cw q
        refine assign_Tuple_tuple hh ht rfl rfl fun h₅ he₅ => ?_
        have he' : ∀ b o, h₃.get? b = some o → h₅.get? b = some o := fun b o q => he₅ b o (Nat.ne_of_lt (Heap.lt_size q)) q
        refine assignInOrder_cons (wpAny_assign_Name (wpAny_storeName_local (lookup_relabel_local hy) (hn₃.at' fun o q => he' _ o q) (fun h₆ hn₆ hs₆ => ?_) (by simp [compEnvC, relabel, hkind])))
        refine assignInOrder_cons (wpAny_assign_Name (wpAny_storeName_local (lookup_relabel_local hz) hn₆ (fun h₇ hn₇ hs₇ => ?_) (by simp [compEnvC, relabel, hkind])))
        refine assignInOrder_nil ?_
        have old7 : ∀ b o, b ≠ H.objs.size → h₃.get? b = some o → h₇.get? b = some o := fun b o hb q => hs₇.extBut b o hb (hs₆.extBut b o hb (he' b o q))
        obtain ⟨oC, heC, hoC⟩ := ns_obj hn₇
        have F₇ : Fr h₀ L h₇ m := ((F₃.keeps he').change hs₆ hCL hC₀).change hs₇ hCL hC₀
        have N₇ : News h₀ L h₇ ((s₁.heap.objs.size, lst ys) :: news) := fun p hp => ⟨old7 _ _ (by
          rcases List.mem_cons.mp hp with rfl | hp
          · exact hDC
          · exact (nb p hp).1) (N₃ p hp).1, (N₃ p hp).2⟩
        have hst₇ := W.frame (i + 1) h₃ h₇ hst₃ fun b hb o q => old7 b o (by
          rcases List.mem_cons.mp hb with rfl | hb
          · exact hCe.1
          · rw [List.mem_singleton.mp hb]; exact hCi.1) q
        refine wpAny_mono (turn i ys c u tv H.objs.size oC s₁.heap.objs.size _ h₇ _ _ hlt hc G' hoC (by simp [hyz]) (by simp) F₇ (fun p hp => by
          rcases List.mem_cons.mp hp with rfl | hp
          · exact ⟨heC, hCL, hC₀⟩
          · exact N₇ p hp)) (fun r s₄ h₄ => ?_) fun _ _ q => q
        obtain ⟨h₈, tk₈, rfl, hk₈, G₈⟩ := h₄
        refine append_at (hsz := by show ys.toArray.size ≤ sizeLine; rw [List.size_toArray, hyl]; exact Nat.le_trans hi hsz) (hk₈ _ _ (N₇ _ (.head _)).1) fun h₉ hs₉ hD₉ => ?_
        have hnC := (hoC.ns (hk₈ _ _ heC)).sameBut hs₉ (Ne.symm hDC)
        refine ⟨x.cps.size + 1 - (i + 1), by omega, h₉, tk₈, i + 1, ys ++ [r], _, rfl, hlt, rfl, by rw [List.length_append, List.length_singleton, hyl], ?_, (F₇.keeps hk₈).change hs₉ hDL hD₀, hnC, fun p hp => ?_, G₈⟩
        · exact W.frame (i + 1) h₇ h₉ hst₇ fun b hb o q => hs₉.extBut b o (by
            rcases List.mem_cons.mp hb with rfl | hb
            · exact hCe.2
            · rw [List.mem_singleton.mp hb]; exact hCi.2) (hk₈ _ _ q)
        · rcases List.mem_cons.mp hp with rfl | hp
          · exact ⟨hD₉.trans (congrArg some (lst_snoc ys r)), hDL, hD₀⟩
          · exact ⟨hs₉.extBut _ _ (nb p hp).2 (hk₈ _ _ (N₇ p (.tail _ hp)).1), (N₇ p (.tail _ hp)).2⟩
      · obtain rfl : i = x.cps.size := Nat.le_antisymm hi (Nat.not_lt.mp hlt)
        refine W.done _ _ _ hst' fun h₂ tk₂ hk₂ => ?_
        have F₂ := keepF F' hk₂
        have N₂ := keepN N' hk₂
        have cw : H.objs.size ∉ [e, it] := by simp; exact ⟨Ne.symm hCe.1, Ne.symm hCi.1⟩
        refine ⟨m', hn'.at' fun o q => hk₂ _ o cw q, fun h'' hs'' => fin _ ys h'' tk₂ G' (F₂.change hs'' hCL hC₀) fun p hp => ?_⟩
        refine ⟨hs''.extBut _ _ ?_ (N₂ p hp).1, (N₂ p hp).2⟩
        rcases List.mem_cons.mp hp with rfl | hp
        · exact hDC
        · exact (nb p hp).1
    · rcases List.mem_cons.mp hp with rfl | hp
      · exact ⟨hacc, hDL, hD₀⟩
      · exact ⟨old _ _ (N p hp).1, (N p hp).2⟩
  exact codeAny_compStart_list (loop _ rfl) (W.self 0 _ _ _ hst₁ (loop _ rfl))
end
end Mine
end

-- part M18
section
open PySem PySem.W PySem.Calls PyProof.Rows PySem.W.X LCg
set_option maxRecDepth 100000
set_option maxHeartbeats 4000000
namespace Mine

section
variable {prog : Program} {w : World} {A : Around} {env : Env} {Q : Flow → Shared → Prop} {E : Value → Shared → Prop} {s : Shared} {h₀ : Heap} {L : Addr} {news : List (Addr × Obj)}
/-- a loop is left, its news too -/
def ExitN (h₀ : Heap) (L : Addr) (s : Shared) (X : (Str → Option Value) → List (Addr × Obj) → Prop) (s₂ : Shared) : Prop :=
  ∃ h' tk' m' nw, s₂ = { s with heap := h', toks := tk' } ∧ Fr h₀ L h' m' ∧ News h₀ L h' nw ∧ X m' nw
theorem ExitN.intro {h' : Heap} {X : (Str → Option Value) → List (Addr × Obj) → Prop} {tk' : Nat} {m' : Str → Option Value} {all nw : List (Addr × Obj)} (F : Fr h₀ L h' m') (N : News h₀ L h' all) (hn : ∀ p ∈ nw, p ∈ all) (hX : X m' nw) : ExitN h₀ L s X { s with heap := h', toks := tk' } := ⟨h', tk', m', nw, rfl, F, fun p hp => N p (hn p hp), hX⟩
theorem ws2N {h' : Heap} {J : Nat → (Str → Option Value) → List (Addr × Obj) → Prop} {n n' tk : Nat} {m₂ : Str → Option Value} {all nw : List (Addr × Obj)} (F : Fr h₀ L h' m₂) (N : News h₀ L h' all) (hs : ∀ p ∈ nw, p ∈ all) (hn : n' < n) (hJ : J n' m₂ nw) :
    WhileStep2 h₀ L s J Q n .next { s with heap := h', toks := tk } := ⟨h', tk, m₂, nw, n', rfl, F, fun p hp => N p (hs p hp), hn, hJ⟩
theorem while_ruleN {test : PySem.Expr} {body : List Stmt} {pos : Pos} {m₀ : Str → Option Value} (J : Nat → (Str → Option Value) → List (Addr × Obj) → Prop) (X : (Str → Option Value) → List (Addr × Obj) → Prop) {n₀ : Nat}
    (F : Fr h₀ L s.heap m₀) (N : News h₀ L s.heap news) (hJ : J n₀ m₀ news)
    (hE : PassesOwn (model prog w) A env E)
    (turn : ∀ n m₁ nw h₁ tk₁, Fr h₀ L h₁ m₁ → News h₀ L h₁ nw → J n m₁ nw →
      wpAny (model prog w) A (isTrue test env (eval test env)) (fun b s₂ =>
        if b = true then wpAny (model prog w) A (execs body env) (WhileStep2 h₀ L s J Q n) E s₂ else ExitN h₀ L s X s₂) E { s with heap := h₁, toks := tk₁ })
    (done : ∀ h tk m nw, Fr h₀ L h m → News h₀ L h nw → X m nw → Q .next { s with heap := h, toks := tk }) :
    wpAny (model prog w) A (exec (.While test body [] pos) env) Q E s := by
  refine While_inv2 J F N hJ ?_ hE
  rintro n m₁ nw h₁ tk₁ F₁ N₁ J₁
  refine wpAny_mono (turn n m₁ nw h₁ tk₁ F₁ N₁ J₁) (fun b s₂ h => ?_) fun _ _ h => h
  cases b with
  | true => exact h
  | false =>
    simp only [Bool.false_eq_true, if_false] at h ⊢
    obtain ⟨h', tk', m', nw', rfl, F', N', hX⟩ := h
    exact done h' tk' m' nw' F' N' hX
end

/-- the loop of _law_read: the figures so far in their cell, the rest in the frame -/
structure JR (row : Str) (tr : Tok) (c : Addr) (news : List (Addr × Obj)) (n : Nat) (m : Str → Option Value) (nw : List (Addr × Obj)) : Prop where
  hrow : m (Str.ofString "row") = some (.str row tr)
  ex : ∃ (j : Nat) (t t' : Tok) (r f : Str) (oc : Obj), m (Str.ofString "rest") = some (.str r t) ∧ nw = (c, oc) :: news ∧ oc.data = .cell (some (.str f t')) ∧ r = mkS (row.cps.toList.drop (leadN row + j)) ∧ f = mkS ((row.cps.toList.drop (leadN row)).take j) ∧
    leadN row + j + n = row.length ∧ ∀ i < j, isDig (row.cps.toList.getD (leadN row + i) 0) = true
structure XR (row : Str) (tr : Tok) (c : Addr) (news : List (Addr × Obj)) (m : Str → Option Value) (nw : List (Addr × Obj)) : Prop where
  hrow : m (Str.ofString "row") = some (.str row tr)
  ex : ∃ (t t' : Tok) (r : Str) (oc : Obj), m (Str.ofString "rest") = some (.str r t) ∧ nw = (c, oc) :: news ∧ oc.data = .cell (some (.str (mkS (figs row)) t')) ∧ r = mkS (row.cps.toList.drop (leadN row + (figs row).length))

theorem occ_dig (c : Nat) : (Builtin.Str.occurrences (Str.ofString "0123456789") (mkS [c]) 0 (Str.ofString "0123456789").length 1).isEmpty = !isDig c := by
  have h := PySem.StrLaws.found_one (Str.ofString "0123456789") c
  have e : decide (c ∈ (Str.ofString "0123456789").cps.toList) = isDig c := by
    rw [show (Str.ofString "0123456789").cps.toList = [48, 49, 50, 51, 52, 53, 54, 55, 56, 57] from by decide]
    rw [Bool.eq_iff_iff]; simp [isDig]; omega
  rw [e] at h
  rw [← h, Bool.not_not]
theorem item_drop {row : Str} {i : Nat} (h : i < row.length) : Txt.item (mkS (row.cps.toList.drop i)) 0 = mkS [row.cps.toList.getD i 0] := by
  rw [item_mk (i := 0) (k := 0) (by rfl) (by rw [len_eq]; show 0 < (row.cps.toList.drop i).toArray.toList.length; rw [List.toList_toArray, List.length_drop, ← len_eq]; omega)]
  show mkS [(row.cps.toList.drop i).toArray.toList.getD 0 0] = _
  rw [List.toList_toArray, getD_drop, Nat.add_zero]
theorem mkS_ne (l : List Nat) : (mkS l != Str.ofString "") = !l.isEmpty := by
  cases l with
  | nil => rfl
  | cons c r =>
    have : mkS (c :: r) ≠ Str.ofString "" := fun e => by
      have := mkS_inj (b := []) e
      cases this
    simpa using this
theorem mkS_eq (l : List Nat) : (mkS l == Str.ofString "") = l.isEmpty := by
  have := mkS_ne l
  rw [bne] at this
  cases h : (mkS l == Str.ofString "") <;> rw [h] at this <;> simp_all
theorem mkS_append (a b : List Nat) : mkS a ++ mkS b = mkS (a ++ b) := by
  show (⟨a.toArray ++ b.toArray⟩ : Str) = ⟨(a ++ b).toArray⟩
  congr 1
  simp
theorem mkS_len (l : List Nat) : (mkS l).length = l.length := by simp [Str.length]
theorem slice_mk1 (l : List Nat) (h : 1 ≤ l.length) : Txt.slice (mkS l) (some 1) none = mkS (l.drop 1) := by
  rw [slice_drop (i := 1) (k := 1) (by rfl) (by rw [mkS_len]; exact h)]

/-- the items so far of the figures' places -/
def Placed (l : List Nat) (i : Nat) (ys : List Value) : Prop := ∃ ns, IntsAre ys ns ∧ ns.length = i ∧ ns.sum = numOf (l.take i) * 10 ^ (l.length - i)
theorem ints_snoc {y : Int} {t : Tok} : ∀ {vs : List Value} {ns : List Int}, IntsAre vs ns → IntsAre (vs ++ [.int y t]) (ns ++ [y])
  | _, _, .nil => .cons y t .nil
  | _, _, .cons z u r => .cons z u (ints_snoc r)
theorem slice_take1 (l : List Nat) : Txt.slice (mkS l) none (some 1) = mkS (l.take 1) := by
  cases l with
  | nil => decide
  | cons c r =>
    rw [beq_iff_eq.mp (slice_closes_to (x := mkS (c :: r)) (j := 1) ⟨by decide, by show (1 : Int) ≤ ((c :: r).toArray.toList.length : Nat); rw [List.toList_toArray, List.length_cons]; omega⟩)]
    rfl
theorem take1_blank {l : List Nat} {b : Bool} (h : (mkS (l.take 1) == Str.ofString " ") = b) : (l.head? = some 32) ↔ b = true := by
  cases l with
  | nil => rw [← h]; simp; decide
  | cons c r =>
    rw [← h, beq_iff_eq, show Str.ofString " " = mkS [32] from by decide]
    simp only [List.take_succ_cons, List.take_zero, List.head?_cons, Option.some.injEq]
    exact ⟨fun e => by rw [e], fun e => by simpa using mkS_inj e⟩
theorem int_of_dig {c : Nat} (h : isDig c = true) : PySem.intText? ⟨#[c]⟩ = some ((c : Int) - 48) := by
  have : c = 48 ∨ c = 49 ∨ c = 50 ∨ c = 51 ∨ c = 52 ∨ c = 53 ∨ c = 54 ∨ c = 55 ∨ c = 56 ∨ c = 57 := by simp [isDig] at h; omega
  rcases this with rfl | rfl | rfl | rfl | rfl | rfl | rfl | rfl | rfl | rfl <;> decide +kernel
theorem figs_dig {row : Str} {i c : Nat} (h : (figs row)[i]? = some c) : isDig c = true := by
  have hm : c ∈ figs row := List.mem_of_getElem? h
  unfold figs at hm
  exact (List.all_takeWhile (p := isDig) (l := row.cps.toList.drop (leadN row)) |> List.all_eq_true.mp) c hm
theorem placed_step {l : List Nat} {i : Nat} {ys : List Value} {c : Nat} {u : Tok} (h : Placed l i ys) (hc : l[i]? = some c) (hi : i < l.length) :
    Placed l (i + 1) (ys ++ [.int (((c : Int) - 48) * 10 ^ (l.length - 1 - i)) u]) := by
  obtain ⟨ns, h1, h2, h3⟩ := h
  refine ⟨ns ++ [((c : Int) - 48) * 10 ^ (l.length - 1 - i)], ints_snoc h1, by simp [h2], ?_⟩
  rw [List.sum_append, h3, take_snoc hi, numOf_snoc]
  have e : l.getD i 0 = c := by rw [List.getD_eq_getElem?_getD, hc]; rfl
  rw [e, show l.length - i = (l.length - 1 - i) + 1 by omega, show l.length - (i + 1) = l.length - 1 - i by omega, Int.pow_succ]
  simp only [List.sum_cons, List.sum_nil, Int.add_zero]
  generalize (10 : Int) ^ (l.length - 1 - i) = P
  generalize numOf (l.take i) = M
  rw [show M * (P * 10) = 10 * M * P by rw [Int.mul_comm P 10, ← Int.mul_assoc, Int.mul_comm M 10], ← Int.add_mul]
  congr 1; omega

section
variable {w : World} {p : Program} {loose : List Str} {mean : ExcName → Option Value} {mg mb : Str → Option Value}
  {dp un : Nat} {gd : Option (List Code)} {cn : Str} {nm : List (Str × NameKind)} {ig ic : Bool} {mo : List (Str × Const)} {a : Addr} {ccd : Value} {cl : List (Str × Addr)} {outer : List Env} {A₀ : Around} {base h₀ : Heap} {L : Addr} {m : Str → Option Value} {s : Shared} {Q E : Value → Shared → Prop}
  {news rest : List (Addr × Obj)} {g : Obj → List (Addr × Obj)}

theorem afresh_M18 : True := by
  w_top off
  k_with_none
  trivial
theorem lines1_M18 : True := by
  k_with "mine k_room" => (ktr_room)
  k_with "mine look" => (first | assumption | exact if_pos rfl | (refine (if_neg (by decide)).trans ?_; walk_at "mine look") | rfl)
  k_with "eval Name" => ((k_here; k_dflt (refine' nameX_L ?z3k1 ?z3k2 ?_ ?z3k3 ?z3k4 ?z3k5; (case z3k1 => k_asm); (case z3k2 => walk_at "mine look"); (case z3k3 => exact rfl); (case z3k4 => exact rfl); (case z3k5 => decide); k_whole)))
  trivial
theorem off_lt {L : Addr} (h : ∀ p ∈ news, p.1 < L) : ∀ p ∈ news, p.1 ≠ L + 1 := fun p hp => Nat.ne_of_lt (Nat.lt_succ_of_lt (h p hp))
theorem lines2_M18 : True := by
  k_with "mine k_all" => (first | assumption | (refine off_lt ?_; assumption))
  k_with "call type:enumerate" => ((refine call_enumerate_str ?_; intro _ _ _ _ _))
  k_with "call type:int" => ((k_here; (with_reducible show wpAny _ _ (call (Value.type "int") [Value.str _ _]) _ _ _); refine KIN.call_text (by with_reducible assumption) (by decide) ?_))
  trivial
theorem read_spec {row : Str} {tr : Tok}
    (B : Below A₀ base outer h₀) (F : Fr h₀ L s.heap m) (X : (hd.heap_39 w.params).In h₀) (N : News h₀ L s.heap news) (T : Top p loose mean mg mb h₀)
    (hdp : dp + 60 < recursionLimit) (hun : un + 300 < cLine) (hlen : row.length ≤ 8)
    (hnone : numR row = .none → ∀ a t h' tk', Fr h₀ L h' m → News h₀ L h' ((a, tup [.none, .str row t]) :: news) → Q (.ref a) { s with heap := h', toks := tk' })
    (hok : ∀ v r, numR row = .ok v r → ∀ a t t' h' tk', Fr h₀ L h' m → News h₀ L h' ((a, tup [.int v t, .str r t']) :: news) → Q (.ref a) { s with heap := h', toks := tk' })
    (hbad : numR row = .bad → ∀ t h' tk', Fr h₀ L h' m → News h₀ L h' news → Q (.str (Str.ofString "SN") t) { s with heap := h', toks := tk' }) :
    wpAny (model PySem.Challenge.rw_pq0156_01.row.toRowW.prog w) (ktrTop dp un gd cn (fsc nm ig ic mo) L a ccd cl outer) (call (.ref 75) [.str row tr]) Q E s := by
  revert X; k_fill; intro X
  refine wpAny_call ?_
  k_dflt k_enter
  iterate 17 (first | (k_unfold; (try dsimp only)) | walk1)
  trace_state
  rename_i gg LL hh2 tk2 FG BB XX TT ll o1 d1 t1 k1 al hh1 hh o2 F2 N2 d2
  refine while_ruleN (JR row tr (LL + 1) news) (XR row tr (LL + 1) news) (n₀ := row.length - leadN row) (by k_asm) (by k_asm) ?j1 (by walk1) ?t1 ?d1
  case j1 => 
    have hle : leadN row ≤ row.length := by rw [len_eq]; exact (List.takeWhile_prefix _).length_le
    exact ⟨rfl, 0, _, _, _, _, o2, rfl, rfl, d2, lstrip_mk row, rfl, by omega, fun _ h => absurd h (Nat.not_lt_zero _)⟩
  case t1 =>
    rintro n m₁ nw h₁ tk₁ F₁ N₁ ⟨hrow, j, t, t', r, f, oc, hrest, rfl, hoc, hr, hf, hjn, hdig⟩
    clear F2 N2 d2 d1
    have hfl : f.length ≤ 8 := by rw [hf, len_eq]; show ((row.cps.toList.drop (leadN row)).take j).toArray.toList.length ≤ 8; rw [List.toList_toArray, List.length_take]; omega
    have hrl : r.length ≤ 8 := by rw [hr, len_eq]; show (row.cps.toList.drop (leadN row + j)).toArray.toList.length ≤ 8; rw [List.toList_toArray, List.length_drop, ← len_eq]; omega
    k_steps
    · have hi : leadN row + j < row.length := by
        have := (by assumption : 1 ≤ r.length)
        rw [hr, mkS_len, List.length_drop, ← len_eq] at this; omega
      have ho := (by assumption : (Builtin.Str.occurrences _ _ _ _ _).isEmpty = true)
      rw [hr, item_drop hi, occ_dig] at ho
      obtain ⟨e1, e2⟩ := num_stop (v := numOf ((row.cps.toList.drop (leadN row)).take j)) (Nat.le_of_lt hi) hdig (fun _ => by simpa using ho) rfl
      refine ExitN.intro F₁ N₁ (fun _ h => h) ⟨hrow, t, t', r, oc, hrest, rfl, ?_, by rw [e1]; exact hr⟩
      rw [figs_take, e1, ← hf]; exact hoc
    · have hi : leadN row + j < row.length := by
        have := (by assumption : 1 ≤ r.length)
        rw [hr, mkS_len, List.length_drop, ← len_eq] at this; omega
      have ho := (by assumption : (Builtin.Str.occurrences _ _ _ _ _).isEmpty = false)
      rw [hr, item_drop hi, occ_dig] at ho
      refine ws2N (n' := n - 1) (by k_asm) (by k_asm) (fun p hp => .tail _ hp) (by omega) ⟨by walk_at "mine look", j + 1, _, _, _, _, _, by walk_at "mine look", rfl, by assumption, ?_, ?_, by omega, ?_⟩
      · rw [hr, slice_mk1 _ (by rw [List.length_drop, ← len_eq]; omega), List.drop_drop, Nat.add_assoc]
      · rw [hf, hr, item_drop hi, mkS_append, take_snoc (by rw [List.length_drop, ← len_eq]; omega), getD_drop]
      · intro i hi2
        rcases Nat.lt_succ_iff_lt_or_eq.mp hi2 with q | rfl
        · exact hdig i q
        · simpa using ho
    · have he : ¬ leadN row + j < row.length := by
        have := (by assumption : (r != Str.ofString "") = false)
        rw [hr, mkS_ne] at this
        simp only [Bool.not_eq_false', List.isEmpty_iff, List.drop_eq_nil_iff, ← len_eq] at this
        omega
      obtain ⟨e1, e2⟩ := num_stop (v := numOf ((row.cps.toList.drop (leadN row)).take j)) (by omega) hdig (fun h => absurd h he) rfl
      refine ExitN.intro F₁ N₁ (fun _ h => h) ⟨hrow, t, t', r, oc, hrest, rfl, ?_, by rw [e1]; exact hr⟩
      rw [figs_take, e1, ← hf]; exact hoc
  case d1 =>
    rintro h₁ tk₁ m₁ nw F₁ N₁ ⟨hrow, t, t', r, oc, hrest, rfl, hoc, hr⟩
    clear F2 N2 d2 d1
    have hfl : (mkS (figs row)).length ≤ 8 := by rw [mkS_len]; have := figs_le row; omega
    have hrl : r.length ≤ 8 := by rw [hr, mkS_len, List.length_drop, ← len_eq]; omega
    generalize hfx : mkS (figs row) = f at hoc hfl
    walk1
    walk1
    walk1
    walk1
    walk1
    walk1
    walk1
    walk1
    · k_steps
      have hf0 := (by with_reducible assumption : (f == Str.ofString "") = true)
      rw [← hfx, mkS_eq] at hf0
      exact hnone (numR_none (by simpa using hf0)) _ _ _ _ (by assumption) (news_drop (by assumption))
    · rename_i hf0
      iterate 8 (first | (k_unfold; (try dsimp only)) | walk1)
      k_dflt (refine' ListComp_enum (h₀ := gg) (L := LL) (m := m₁) ?q1 ?q2 ?q3 ?q4 ?q5 ?q6 ?q7 ?q8)
      case q1 => with_unfolding_all rfl
      case q2 => decide
      case q3 => rfl
      case q4 => decide
      case q5 => rfl
      case q6 => rfl
      case q7 => decide
      iterate 6 walk1
      refine call_enumerate_str ?_
      intro h2 hE hS hz hk
      have elt1 : LL < h₁.objs.size := F₁.ns.lt
      have nlt : ∀ p ∈ ((LL + 1, oc) :: news), p.1 < h₁.objs.size := fun p hp => Heap.lt_size (N₁ p hp).1
      have gn : ∀ b, h₁.objs.size ≤ b → gg.get? b = none := fun b hb => by
        cases q : gg.get? b with
        | none => rfl
        | some o => exact absurd (Heap.lt_size (F₁.keep _ _ q)) (Nat.not_lt.mpr hb)
      refine ⟨_, _, f, t', (LL + 1, oc) :: news, Placed (figs row), rfl, rfl, hE, hS, Nat.succ_ne_self _, fun b hb => ?_, F₁.keeps hk, N₁.grown hk, ?_, ⟨[], .nil, rfl, by simp [numOf]⟩, ?turn, ?fin⟩
      · have hb' : h₁.objs.size ≤ b := by
          rcases hb with rfl | rfl
          · exact Nat.le_succ _
          · exact Nat.le_refl _
        exact ⟨gn b hb', Nat.ne_of_lt (Nat.lt_of_lt_of_le elt1 hb'), fun p hp => Nat.ne_of_lt (Nat.lt_of_lt_of_le (nlt p hp) hb')⟩
      · exact Nat.le_trans hfl (by rw [sizeLine_eq]; decide)
      case turn =>
        intro i ys c u v C oC D m₂ h3 tk3 E' hi hc hG hoC hmy hmz F3 N3
        have hfi : (figs row)[i]? = some c := by rw [← hfx] at hc; simpa using hc
        have hil : i < (figs row).length := (List.getElem?_eq_some_iff.mp hfi).1
        have hint := int_of_dig (figs_dig hfi)
        have hflen : f.length = (figs row).length := by rw [← hfx, mkS_len]
        k_steps
        refine KIN.call_text hint (by show 1 ≤ 640; decide) ?_
        have hcb : 48 ≤ c ∧ c ≤ 57 := by have := figs_dig hfi; simp [isDig] at this; omega
        k_steps
        exact Eq.mpr (congrArg (fun z : Nat => Placed (figs row) (i + 1) (ys ++ [Value.int (((c : Int) - 48) * 10 ^ z) _])) (by omega)) (placed_step hG hfi hil)
      case fin =>
        intro D ys h3 tk3 hG F3 N3
        obtain ⟨ns, hI, hnl, hsum⟩ := hG
        have hsz : f.cps.size = (figs row).length := by rw [← hfx]; simp
        rw [hsz, Nat.sub_self, List.take_length, Int.pow_zero, Int.mul_one] at hsum
        rw [hsz] at hnl
        iterate 1 walk1
        refine sumK rfl F3 N3 ⟨_, (N3 _ (.head _)).1, rfl, _, rfl⟩ hI fun h4 tk4 t4 F4 N4 => ?_
        rw [hsum]
        have hflen : f.length = (figs row).length := by rw [← hfx, mkS_len]
        have hne0 : (figs row).length ≠ 0 := by
          rw [← hfx, mkS_eq] at hf0
          intro q
          rw [List.length_eq_zero_iff.mp q] at hf0
          exact Bool.noConfusion hf0
        k_steps
        · rename_i h5 kF kN _ _
          exact hbad (by unfold numR; rw [if_pos (by omega)]) _ _ _ kF fun p hp => kN p (.tail _ (.tail _ hp))
        · rename_i h5 hb kF kN _ _
          exact hbad (numR_big (by omega) hne0 hb) _ _ _ kF fun p hp => kN p (.tail _ (.tail _ hp))
        · rename_i h5 hb _ _ _ _ hbl _ _ _ _ _ _ _ _ _ kF kN _ _
          rw [hr, slice_take1] at hbl
          have hh := (take1_blank hbl).mpr rfl
          refine hok _ _ (numR_ok (by omega) hne0 hb ?_) _ _ _ _ _ kF (news_drop (news_drop kN))
          rw [hr, slice_mk1 _ (by
            cases hd : row.cps.toList.drop (leadN row + (figs row).length) with
            | nil => rw [hd] at hh; cases hh
            | cons c r => simp)]
          unfold behind
          rw [if_pos hh]
        · rename_i h5 hb _ _ _ _ hbl _ _ _ _ _ kF kN _ _
          rw [hr, slice_take1] at hbl
          have hh : ¬ _ := fun q => Bool.noConfusion ((take1_blank hbl).mp q)
          refine hok _ _ (numR_ok (by omega) hne0 hb ?_) _ _ _ _ _ kF (news_drop (news_drop kN))
          rw [hr]
          unfold behind
          rw [if_neg hh]
end
end Mine
end

-- part M19
section
open PySem PySem.W PySem.Calls PyProof.Rows PySem.W.X LCg
set_option maxRecDepth 100000
set_option maxHeartbeats 4000000
namespace Mine
theorem afresh_M19 : True := by
  w_top off
  k_with_none
  trivial

section
variable {prog : Program} {w : World} {A : Around} {E : Value → Shared → Prop} {s : Shared} {env : Env} {h₀ : Heap} {x : Str} {px : Pos} {body : List Stmt} {Q : Flow → Shared → Prop}

/-- a turn's end: what it keeps -/
def TurnEnd (h₀ : Heap) (L I : Addr) (oI : Obj) (s : Shared) (Q : Flow → Shared → Prop) (Jn : (Str → Option Value) → List (Addr × Obj) → Prop) (f : Flow) (s₂ : Shared) : Prop :=
  match f with
  | .ret v => Q (.ret v) s₂
  | .brk => Q .next s₂
  | _ => ∃ h' tk' m' nw', s₂ = { s with heap := h', toks := tk' } ∧ Fr h₀ L h' m' ∧ News h₀ L h' ((I, oI) :: nw') ∧ (∀ p ∈ nw', p.1 ≠ I) ∧ Jn m' nw'
theorem turn_end {h₀ h' : Heap} {L I : Addr} {oI : Obj} {Jn : (Str → Option Value) → List (Addr × Obj) → Prop} {f : Flow} {tk' : Nat} {m' : Str → Option Value} {all nw' : List (Addr × Obj)} (hf : f = .next ∨ f = .cont)
    (F : Fr h₀ L h' m') (N : News h₀ L h' all) (hs : ∀ p ∈ (I, oI) :: nw', p ∈ all) (hI : ∀ p ∈ nw', p.1 ≠ I) (hJ : Jn m' nw') : TurnEnd h₀ L I oI s Q Jn f { s with heap := h', toks := tk' } := by
  rcases hf with rfl | rfl <;> exact ⟨h', tk', m', nw', rfl, F, fun p hp => N p (hs p hp), hI, hJ⟩

/-- a loop over a made list, by an invariant over the frame and the ledger -/
theorem turns_list {D : Addr} {oD : Obj} {its : Array Value} {k : Nat} {m : Str → Option Value} {news : List (Addr × Obj)} (hh : A.handled = none) (hoD : oD = { cls := .type "list", data := .seq its k })
    (F : Fr h₀ env.locals s.heap m) (N : News h₀ env.locals s.heap news)
    (J : Nat → (Str → Option Value) → List (Addr × Obj) → Prop) (hJD : ∀ i m nw, J i m nw → (D, oD) ∈ nw) (h0 : J 0 m news)
    (step : ∀ i v m₁ nw h₁ tk₁ I oI, its[i]? = some v → J i m₁ nw → (∀ p ∈ nw, p.1 ≠ I) → Fr h₀ env.locals h₁ m₁ → News h₀ env.locals h₁ ((I, oI) :: nw) →
      wpAny (model prog w) A (assign (.Name x px) env v) (fun _ s₃ => wpAny (model prog w) A (execs body env) (TurnEnd h₀ env.locals I oI s Q (J (i + 1))) E s₃) E { s with heap := h₁, toks := tk₁ })
    (done : ∀ h' tk m' nw, Fr h₀ env.locals h' m' → News h₀ env.locals h' nw → J its.size m' nw → Q .next { s with heap := h', toks := tk }) :
    wpAny (model prog w) A (pyIter (.ref D)) (fun it s₂ => TurnsAt prog w A h₀ env (.Name x px) body Q E it s₂) E s := by
  have hD := hJD _ _ _ h0
  have hDN := N _ hD
  have hl : s.heap.IsList D its := ⟨oD, hDN.1, by rw [hoD], k, by rw [hoD]⟩
  have hlt : D < s.heap.objs.size := Heap.lt_size hDN.1
  refine wpAny_pyIter_list hl ?_
  have up : ∀ b o, s.heap.get? b = some o → (s.heap.push { cls := .type "list_iterator", data := .fields #[.ref D, .int 0 0] }).get? b = some o := fun b o q => Heap.get?_push_of_some _ q
  have hI₀ : h₀.get? s.heap.objs.size = none := by
    cases q : h₀.get? s.heap.objs.size with
    | none => rfl
    | some o => exact absurd (Heap.lt_size (F.keep _ _ q)) (Nat.lt_irrefl _)
  have hIL : env.locals ≠ s.heap.objs.size := Nat.ne_of_lt F.ns.lt
  have W := Walks.list (prog := prog) (w := w) (A := A) hh s.heap.objs.size D (Nat.ne_of_lt hlt) its
  refine ⟨s.heap.objs.size, _, _, _, _, _, _, m, news, J, rfl, KTurns.ofWalks (target := .Name x px) W (fun i v s Q E _ h => wpAny_pure h), ?_, ?_, ?_, ⟨⟨_, Heap.get?_push_size _ rfl, rfl, rfl⟩, hl.push _⟩, F.keeps up, N.grown up, h0, ?_, ?_⟩
  · simp only [List.mem_cons, List.not_mem_nil, or_false, not_or]
    exact ⟨hIL, Ne.symm hDN.2.1⟩
  · intro b hb; rw [List.mem_singleton.mp hb]; exact hI₀
  · intro p hp hm; exact Nat.ne_of_lt (Heap.lt_size (N p hp).1) (List.mem_singleton.mp hm)
  · intro i v m₁ nw h₁ tk₁ own hi hP hJ hnw hof hoh hol hst F₁ N₁
    obtain ⟨⟨oI, hoI, _⟩, _⟩ := hst
    have hnI : ∀ p ∈ nw, p.1 ≠ s.heap.objs.size := fun p hp q => hnw p hp (by rw [q]; exact .head _)
    have hown : ∀ nw' : List (Addr × Obj), (D, oD) ∈ nw' → ∀ h', News h₀ env.locals h' ((s.heap.objs.size, oI) :: nw') → News h₀ env.locals h' (own ++ nw') := fun nw' hD' h' N' p hp => by
      rcases List.mem_append.mp hp with q | q
      · have e1 := hoh p q
        rcases List.mem_cons.mp (hof p q) with z | z
        · rw [z] at e1
          rw [hoI] at e1
          have : p = (s.heap.objs.size, oI) := Prod.ext z (Option.some.inj e1).symm
          rw [this]; exact N' _ (.head _)
        · have z := List.mem_singleton.mp z
          have e2 := (N₁ _ (List.mem_append_right _ (hJD _ _ _ hJ))).1
          rw [z] at e1
          dsimp only at e2
          rw [e1] at e2
          have : p = (D, oD) := Prod.ext z (Option.some.inj e2)
          rw [this]; exact N' _ (.tail _ hD')
      · exact N' _ (.tail _ q)
    refine wpAny_mono (step i v m₁ nw h₁ tk₁ s.heap.objs.size oI hP hJ hnI F₁ (fun p hp => ?_)) (fun _ s₃ h₃ => wpAny_mono h₃ (fun f s₄ h₄ => ?_) fun _ _ e => e) fun _ _ e => e
    · rcases List.mem_cons.mp hp with rfl | hp
      · exact ⟨hoI, Ne.symm hIL, hI₀⟩
      · exact N₁ p (List.mem_append_right _ hp)
    · cases f with
      | ret v => exact h₄
      | brk => exact h₄
      | next =>
        obtain ⟨h', tk', m', nw', rfl, F', N', hI', hJ'⟩ := h₄
        exact ⟨rfl, h', tk', m', nw', rfl, F', hown _ (hJD _ _ _ hJ') _ N', fun p hp hm => hI' p hp (List.mem_singleton.mp hm), hJ'⟩
      | cont =>
        obtain ⟨h', tk', m', nw', rfl, F', N', hI', hJ'⟩ := h₄
        exact ⟨rfl, h', tk', m', nw', rfl, F', hown _ (hJD _ _ _ hJ') _ N', fun p hp hm => hI' p hp (List.mem_singleton.mp hm), hJ'⟩
  · intro h' tk m' nw F' N' _ hJ
    exact done h' tk m' nw F' N' hJ
end
end Mine
end

-- part M20
section
open PySem PySem.W PySem.Calls PyProof.Rows PySem.W.X LCg
set_option maxRecDepth 100000
set_option maxHeartbeats 4000000
namespace Mine

/-- a dict of texts under ints, what it tells -/
inductive KV : List (Int × Value) → List (Int × Str) → Prop
  | nil : KV [] []
  | cons (k : Int) (r : Str) (t : Tok) {kvs d} : KV kvs d → KV ((k, .str r t) :: kvs) ((k, r) :: d)
def putL (d : List (Int × Str)) (k : Int) (r : Str) : List (Int × Str) := if d.any (fun kv => kv.1 = k) then d.map (fun kv => if kv.1 = k then (kv.1, r) else kv) else d ++ [(k, r)]
def delL (d : List (Int × Str)) (k : Int) : List (Int × Str) := d.filter fun kv => decide (kv.1 ≠ k)
theorem KV.any {kvs d} (h : KV kvs d) (k : Int) : kvs.any (fun kv => kv.1 = k) = d.any (fun kv => kv.1 = k) := by
  induction h with
  | nil => rfl
  | cons k' r t _ ih => rw [List.any_cons, List.any_cons, ih]
theorem KV.put {kvs d} (h : KV kvs d) (k : Int) (r : Str) (t : Tok) : KV (stored kvs k (.str r t)) (putL d k r) := by
  unfold stored putL
  rw [h.any]
  cases q : d.any (fun kv => decide (kv.1 = k)) with
  | true =>
    simp only [if_true]
    clear q
    induction h with
    | nil => exact .nil
    | cons k' r' t' _ ih =>
      rw [List.map_cons, List.map_cons]
      by_cases e : k' = k
      · simp only [e, if_true]; exact .cons _ _ _ ih
      · simp only [e, if_false]; exact .cons _ _ _ ih
  | false =>
    simp only [Bool.false_eq_true, if_false]
    clear q
    induction h with
    | nil => exact .cons _ _ _ .nil
    | cons k' r' t' _ ih => exact .cons _ _ _ ih
theorem KV.del {kvs d} (h : KV kvs d) (k : Int) : KV (without kvs k) (delL d k) := by
  unfold without delL
  induction h with
  | nil => exact .nil
  | cons k' r t _ ih =>
    rw [List.filter_cons, List.filter_cons]
    by_cases e : k' = k
    · simp only [e, ne_eq, not_true_eq_false, decide_false, Bool.false_eq_true, if_false]; exact ih
    · simp only [e, ne_eq, not_false_eq_true, decide_true, if_true]; exact .cons _ _ _ ih
theorem KV.len {kvs d} (h : KV kvs d) : kvs.length = d.length := by
  induction h with
  | nil => rfl
  | cons _ _ _ _ ih => simp [ih]
theorem putL_len (d : List (Int × Str)) (k : Int) (r : Str) : (putL d k r).length ≤ d.length + 1 := by
  unfold putL; split <;> simp
theorem delL_len (d : List (Int × Str)) (k : Int) : (delL d k).length ≤ d.length := List.length_filter_le _ _

def blank (r : Str) : Bool := Txt.stripChars r (Str.ofString " ") == Str.ofString ""
/-- what a row does to the program -/
def loadStep (d : List (Int × Str)) (row : Str) : Option (List (Int × Str)) :=
  if blank row then some d else match numR row with
  | .none => none
  | .bad => none
  | .ok v r => if blank r then some (delL d v) else some (putL d v r)
def loadAll (rs : List Str) : Option (List (Int × Str)) := rs.foldlM loadStep []
theorem loadAll_snoc (l : List Str) (r : Str) : loadAll (l ++ [r]) = (loadAll l).bind (loadStep · r) := by
  unfold loadAll
  rw [List.foldlM_append]
  simp only [List.foldlM_cons, List.foldlM_nil, bind_pure]
  rfl
theorem loadAll_take {rs : List Str} {i : Nat} {r : Str} {d : List (Int × Str)} (hr : rs[i]? = some r) (h : loadAll (rs.take i) = some d) : loadAll (rs.take (i + 1)) = loadStep d r := by
  rw [List.take_add_one, hr]
  show loadAll (rs.take i ++ [r]) = _
  rw [loadAll_snoc, h]; rfl
theorem foldlM_none {l₂ : List Str} : ∀ {l₁ : List Str} {a : List (Int × Str)}, l₁.foldlM loadStep a = none → (l₁ ++ l₂).foldlM loadStep a = none := by
  intro l₁ a h
  rw [List.foldlM_append, h]; rfl
theorem loadAll_none {rs : List Str} {i : Nat} (h : loadAll (rs.take i) = none) : loadAll rs = none := by
  have := foldlM_none (l₂ := rs.drop i) h
  rw [List.take_append_drop] at this
  exact this
theorem strs_get {vs : List Value} {rs : List Str} (h : StrsAre vs rs) {i : Nat} {v : Value} (hv : vs[i]? = some v) : ∃ r t, rs[i]? = some r ∧ v = .str r t := by
  induction h generalizing i with
  | nil => cases hv
  | cons y t _ ih =>
    cases i with
    | zero => cases hv; exact ⟨_, _, rfl, rfl⟩
    | succ i => exact ih hv

section
variable {prog : Program} {w : World} {A : Around} {E : Value → Shared → Prop} {s : Shared} {h₀ : Heap} {L d : Addr} {m : Str → Option Value} {news : List (Addr × Obj)} {g : Obj → List (Addr × Obj)} {o : Obj} {kvs : List (Int × Value)} {k : Int} {t : Tok}
theorem pop_dict {Q : Value → Shared → Prop} (F : Fr h₀ L s.heap m) (N : News h₀ L s.heap news) (U : UpdF d o news g) (lo : (d == sysModules) = false) (hd : o.IsDictOf (intKind prog w) kvs) (hsz : kvs.length ≤ sizeLine)
    (h : ∀ v h' tk' o', Fr h₀ L h' m → News h₀ L h' (g o') → o'.IsDictOf (intKind prog w) (without kvs k) → Q v { s with heap := h', toks := tk' }) :
    wpAny (model prog w) A (call (.builtin "dict.pop") [.ref d, .int k t, .none]) Q E s := by
  cases hl : valueAt kvs k with
  | some v => exact kob_pop F N U hd (intKind_is _ _ _ _) (.inr ⟨_, rfl⟩) rfl (PySem.F.args_dict_pop_3 _ _ _) hl hsz fun h' o' F' N' hd' => h v h' _ o' F' N' hd'
  | none =>
    obtain ⟨pre, post, rfl, hg, a, b⟩ := U.split
    have hm := N (d, o) (List.mem_append_right _ (.head _))
    have hD : s.heap.DictOf (intKind prog w) d kvs := Heap.dictOf_iff.mpr ⟨o, hm.1, hd⟩
    refine call_meetsIn PySem.F.slot_dict_pop hD.typeIs PySem.F.entry_dict_pop (PySem.F.args_dict_pop_3 _ _ _) (meets_dict_pop_default (intKind prog w) d (intKind_is _ _ _ _) lo rfl .none) ⟨kvs, hD, hl, ?_⟩
    have e : without kvs k = kvs := by
      refine without_of_not_mem kvs k fun hmem => ?_
      obtain ⟨kv, hkv, rfl⟩ := List.mem_map.mp hmem
      unfold valueAt at hl
      rw [Option.map_eq_none_iff, List.find?_eq_none] at hl
      exact hl kv hkv (by simp)
    exact h .none s.heap _ o F (hg o ▸ N) (e.symm ▸ hd)
theorem put_dict {v : Value} {Q : Unit → Shared → Prop} (F : Fr h₀ L s.heap m) (N : News h₀ L s.heap news) (U : UpdF d o news g) (hd : o.IsDictOf (intKind prog w) kvs) (hsz : kvs.length ≤ sizeLine)
    (h : ∀ h' tk' o', Fr h₀ L h' m → News h₀ L h' (g o') → o'.IsDictOf (intKind prog w) (stored kvs k v) → Q () { s with heap := h', toks := tk' }) :
    wpAny (model prog w) A (setItem (.ref d) (.int k t) v) Q E s := by
  obtain ⟨pre, post, rfl, hg, a, b⟩ := U.split
  have hm := N (d, o) (List.mem_append_right _ (.head _))
  refine wpAny_setItem_pairs (hsz := hsz) (intKind_is _ _ _ _) (Heap.dictOf_iff.mpr ⟨o, hm.1, hd⟩) fun h' hmm hs => ?_
  obtain ⟨o', ho', hd'⟩ := Heap.dictOf_iff.mp hmm
  exact h h' _ o' (F.change hs hm.2.1 hm.2.2) (hg o' ▸ N.setIn a b hs ho') hd'
end
end Mine
end

-- part M21
section
open PySem PySem.W PySem.Calls PyProof.Rows PySem.W.X LCg
set_option maxRecDepth 100000
set_option maxHeartbeats 4000000
namespace Mine

/-- loaded_program's loop: the dict so far -/
structure JL (w : World) (rs : List Str) (da D : Addr) (oD : Obj) (news : List (Addr × Obj)) (i : Nat) (m : Str → Option Value) (nw : List (Addr × Obj)) : Prop where
  hf : m (Str.ofString "found") = some (.ref da)
  ex : ∃ o kvs d, nw = (D, oD) :: (da, o) :: news ∧ o.IsDictOf (intKind PySem.Challenge.rw_pq0156_01.row.toRowW.prog w) kvs ∧ KV kvs d ∧ d.length ≤ i ∧ loadAll (rs.take i) = some d

theorem numR_len {row r : Str} {v : Int} (h : numR row = .ok v r) : r.length ≤ row.length := by
  unfold numR at h
  repeat' split at h
  all_goals (first | (cases h; done) | skip)
  cases h
  rw [mkS_len, len_eq]
  unfold behind
  split
  · rw [List.length_drop, List.length_drop]; omega
  · rw [List.length_drop]; omega
theorem load_blank {d : List (Int × Str)} {r : Str} (h : (Txt.stripChars r (Str.ofString " ") == Str.ofString "") = true) : loadStep d r = some d := by
  unfold loadStep blank; rw [if_pos h]
theorem load_none {d : List (Int × Str)} {r : Str} (h : (Txt.stripChars r (Str.ofString " ") == Str.ofString "") = false) (hn : numR r = .none) : loadStep d r = none := by
  unfold loadStep blank; rw [if_neg (by rw [h]; decide), hn]
theorem load_bad {d : List (Int × Str)} {r : Str} (h : (Txt.stripChars r (Str.ofString " ") == Str.ofString "") = false) (hn : numR r = .bad) : loadStep d r = none := by
  unfold loadStep blank; rw [if_neg (by rw [h]; decide), hn]
theorem load_del {d : List (Int × Str)} {r r' : Str} {v : Int} (h : (Txt.stripChars r (Str.ofString " ") == Str.ofString "") = false) (hn : numR r = .ok v r') (hb : (Txt.stripChars r' (Str.ofString " ") == Str.ofString "") = true) : loadStep d r = some (delL d v) := by
  unfold loadStep; rw [if_neg (by unfold blank; rw [h]; decide), hn]; dsimp only; rw [if_pos (by unfold blank; exact hb)]
theorem load_put {d : List (Int × Str)} {r r' : Str} {v : Int} (h : (Txt.stripChars r (Str.ofString " ") == Str.ofString "") = false) (hn : numR r = .ok v r') (hb : (Txt.stripChars r' (Str.ofString " ") == Str.ofString "") = false) : loadStep d r = some (putL d v r') := by
  unfold loadStep; rw [if_neg (by unfold blank; rw [h]; decide), hn]; dsimp only; rw [if_neg (by unfold blank; rw [hb]; decide)]

section
variable {w : World} {p : Program} {loose : List Str} {mean : ExcName → Option Value} {mg mb : Str → Option Value}
  {dp un : Nat} {gd : Option (List Code)} {cn : Str} {nm : List (Str × NameKind)} {ig ic : Bool} {mo : List (Str × Const)} {a : Addr} {ccd : Value} {cl : List (Str × Addr)} {outer : List Env} {A₀ : Around} {base h₀ : Heap} {L : Addr} {m : Str → Option Value} {s : Shared} {Q E : Value → Shared → Prop}
  {news rest : List (Addr × Obj)} {g : Obj → List (Addr × Obj)}

theorem afresh_M21 : True := by
  w_top off
  k_with_none
  trivial
theorem lines1_M21 : True := by
  k_with "mine k_room" => (ktr_room)
  k_with "mine look" => (first | assumption | exact if_pos rfl | (refine (if_neg (by decide)).trans ?_; walk_at "mine look") | rfl)
  k_with "eval Name" => ((k_here; k_dflt (refine' PyProof.Rows.ld ?z3k1 ?z3k2 ?_; (case z3k1 => k_asm); (case z3k2 => walk_at "mine look"); k_whole)))
  k_with "loadName" => ((k_here; k_dflt (refine' PyProof.Rows.ldn ?z4k1 ?z4k2 ?_; (case z4k1 => k_asm); (case z4k2 => walk_at "mine look"); k_whole)))
  k_with "exec Raise some none" => ((k_here; k_dflt (refine Raise_err (by rfl) ?_)))
  k_with "call ref" => ((k_here; k_dflt (refine' make_raise ?z6k1 ?z6k2 ?z6k3 ?z6k4 ?z6k5 ?z6k6 ?z6k7 ?_; (case z6k1 => k_asm); (case z6k2 => k_asm); (case z6k3 => k_asm); (case z6k4 => k_asm); (case z6k5 => k_asm); (case z6k6 => ktr_room); (case z6k7 => first | units_room | omega); k_whole); intro _ _ _ _ _ _ _ _ _ _ _))
  k_with "call ref" => ((k_here; k_dflt (refine' num_spec ?z7k1 ?z7k2 ?z7k3 ?z7k4 ?z7k5 ?z7k6 ?z7k7 ?z7k8 ?_ ?_ ?_; (case z7k1 => k_asm); (case z7k2 => k_asm); (case z7k3 => k_asm); (case z7k4 => k_asm); (case z7k5 => k_asm); (case z7k6 => ktr_room); (case z7k7 => first | units_room | omega); (case z7k8 => assumption))))
  trivial

theorem loaded_spec {x : Str} {tx : Tok} {rs : List Str}
    (B : Below A₀ base outer h₀) (F : Fr h₀ L s.heap m) (X : (hd.heap_39 w.params).In h₀) (N : News h₀ L s.heap news) (T : Top p loose mean mg mb h₀)
    (hdp : dp + 80 < recursionLimit) (hun : un + 400 < cLine) (hlen : x.length ≤ 17) (hx : Txt.split x (Str.ofString "\n") = rs) (hrs : ∀ r ∈ rs, r.length ≤ 8)
    (hok : ∀ di, loadAll rs = some di → ∀ d o kvs h' tk', o.IsDictOf (intKind PySem.Challenge.rw_pq0156_01.row.toRowW.prog w) kvs → KV kvs di → (d == sysModules) = false → Fr h₀ L h' m → News h₀ L h' ((d, o) :: news) → Q (.ref d) { s with heap := h', toks := tk' })
    (herr : loadAll rs = none → ∀ e D oD g h' tk', Fr h₀ L g m → Flown base g (envX cn (fsc nm ig ic mo) L a ccd cl :: outer) e D ((D, oD) :: news) h' → TellsSN oD → E (.ref e) { s with heap := h', toks := tk' }) :
    wpAny (model PySem.Challenge.rw_pq0156_01.row.toRowW.prog w) (ktrTop dp un gd cn (fsc nm ig ic mo) L a ccd cl outer) (call (.ref 51) [.str x tx]) Q E s := by
  revert X; k_fill; intro X
  refine wpAny_call ?_
  k_dflt k_enter
  iterate 6 (first | (k_unfold; (try dsimp only)) | walk1)
  rename_i dd hq0 od ld lod hs fs hi fi hh F1 N1
  refine For_turns (by k_asm) ?_
  iterate 7 walk1
  refine KSpl.split1 (by k_asm) (by k_asm) (by decide) ?_ (Nat.le_trans (Nat.add_le_add_right hlen 2) (by rw [sizeLine_eq]; decide))
  intro D l h2 k2 el al F2 N2 lD
  rw [hx] at el
  have al' : StrsAre (strValues l) rs := by rw [← el]; exact al
  have hlen2 : rs.length ≤ 100 := by
    have := split_le x (Str.ofString "\n"); rw [hx] at this; omega
  refine turns_list (oD := listOf (strValues l).toArray 0) rfl rfl F2 N2 (JL w rs dd D (listOf (strValues l).toArray 0) news) (fun i m nw h => let ⟨_, _, _, _, e, _⟩ := h; e ▸ .head _) ⟨rfl, od, [], [], rfl, hi, .nil, Nat.zero_le _, rfl⟩ ?step ?done
  case step =>
    rintro i v m₁ nw h₁ tk₁ I oI hv ⟨hf, o, kvs, d, rfl, ho, hkv, hdl, hld⟩ hnI F3 N3
    obtain ⟨r, tr, hr, rfl⟩ := strs_get al' (by simpa using hv)
    have hrl : r.length ≤ 20 := Nat.le_trans (hrs r (List.mem_of_getElem? hr)) (by decide)
    have hin : i < rs.length := (List.getElem?_eq_some_iff.mp hr).1
    have hDI : D ≠ I := hnI _ (.head _)
    have hdI : dd ≠ I := hnI _ (.tail _ (.head _))
    have hdD : dd ≠ D := Nat.ne_of_lt (lD _ (.head _))
    have hkl : kvs.length ≤ sizeLine := by rw [hkv.len, sizeLine_eq]; omega
    have hnd : ∀ p ∈ news, p.1 ≠ dd := fun p hp => Nat.ne_of_lt (ld p hp)
    k_steps
    · rename_i hb
      refine turn_end (nw' := (D, W.listOf (strValues l).toArray 0) :: (dd, o) :: news) (.inr rfl) (by k_asm) (by k_asm) (fun _ h => h) (fun p hp => hnI p hp) ⟨by walk_at "mine look", o, kvs, d, rfl, ho, hkv, Nat.le_succ_of_le hdl, ?_⟩
      rw [loadAll_take hr hld, load_blank hb]
    · rename numR r = NR.none => hnr
      rename (Txt.stripChars r (Str.ofString " ") == Str.ofString "") = false => hb
      refine leave_first (by k_asm) (by assumption) (by assumption) (by assumption) (by assumption) rfl rfl fun h' R => ?_
      refine herr (loadAll_none (i := i + 1) (by rw [loadAll_take hr hld, load_none hb hnr])) _ _ _ _ _ _ (by k_asm) (R.sub (fun p hp => ?_)) (by assumption)
      rcases List.mem_cons.mp hp with q | q
      · rw [q]; exact .head _
      · exact .tail _ (.tail _ (.tail _ (.tail _ (.tail _ q))))
    · rename numR r = NR.ok _ _ => hnr
      rename (Txt.stripChars r (Str.ofString " ") == Str.ofString "") = false => hb
      have hrl' := Nat.le_trans (numR_len hnr) hrl
      have U : UpdF dd o ((I, oI) :: (D, W.listOf (strValues l).toArray 0) :: (dd, o) :: news) (fun o' => (I, oI) :: (D, W.listOf (strValues l).toArray 0) :: (dd, o') :: news) := .tail (Ne.symm hdI) (.tail (Ne.symm hdD) (.head hnd))
      k_steps
      · rename (Txt.stripChars _ (Str.ofString " ") == Str.ofString "") = true => hb2
        rename News _ _ _ (_ :: (I, oI) :: _) => NN
        refine pop_dict (by k_asm) (fun p hp => NN p (.tail _ hp)) U lod ho hkl fun v' h4 tk4 o4 F4 N4 d4 => ?_
        k_steps
        refine turn_end (nw' := (D, W.listOf (strValues l).toArray 0) :: (dd, o4) :: news) (.inl rfl) (by k_asm) (by k_asm) (fun _ h => h) (fun p hp => ?_) ⟨by walk_at "mine look", o4, _, _, rfl, d4, hkv.del _, ?_, ?_⟩
        · rcases List.mem_cons.mp hp with q | hp
          · rw [q]; exact hDI
          · rcases List.mem_cons.mp hp with q | hp
            · rw [q]; exact hdI
            · exact hnI p (.tail _ (.tail _ hp))
        · exact Nat.le_trans (delL_len _ _) (Nat.le_succ_of_le hdl)
        · rw [loadAll_take hr hld, load_del hb hnr hb2]
      · rename (Txt.stripChars _ (Str.ofString " ") == Str.ofString "") = false => hb2
        rename News _ _ _ (_ :: (I, oI) :: _) => NN
        refine put_dict (by k_asm) (fun p hp => NN p (.tail _ hp)) U ho hkl fun h4 tk4 o4 F4 N4 d4 => ?_
        k_steps
        refine turn_end (nw' := (D, W.listOf (strValues l).toArray 0) :: (dd, o4) :: news) (.inl rfl) (by k_asm) (by k_asm) (fun _ h => h) (fun p hp => ?_) ⟨by walk_at "mine look", o4, _, _, rfl, d4, hkv.put _ _ _, ?_, ?_⟩
        · rcases List.mem_cons.mp hp with q | hp
          · rw [q]; exact hDI
          · rcases List.mem_cons.mp hp with q | hp
            · rw [q]; exact hdI
            · exact hnI p (.tail _ (.tail _ hp))
        · exact Nat.le_trans (putL_len _ _ _) (Nat.succ_le_succ hdl)
        · rw [loadAll_take hr hld, load_put hb hnr hb2]
    · rename numR r = NR.bad => hnr
      rename (Txt.stripChars r (Str.ofString " ") == Str.ofString "") = false => hb
      rename Flown _ _ _ _ _ _ _ => R
      refine leave_on (by k_asm) (by with_reducible assumption) R rfl fun h' R => ?_
      refine herr (loadAll_none (i := i + 1) (by rw [loadAll_take hr hld, load_bad hb hnr])) _ _ _ _ _ _ (by k_asm) (R.sub (fun p hp => ?_)) (by assumption)
      rcases List.mem_cons.mp hp with q | q
      · rw [q]; exact .head _
      · exact .tail _ (.tail _ (.tail _ (.tail _ q)))
  case done =>
    rintro h3 tk3 m3 nw F3 N3 ⟨hf, o, kvs, d, rfl, ho, hkv, hdl, hld⟩
    k_steps
    have hsz : (strValues l).toArray.size = rs.length := by
      have := congrArg List.length el
      simpa [strValues] using this
    rw [hsz, List.take_length] at hld
    exact hok d hld _ _ _ _ _ ho hkv lod (by assumption) (fun p hp => (by assumption : News h₀ L _ _) p (.tail _ hp))
end
end Mine
end

-- part M22
section
open PySem PySem.W PySem.Calls PyProof.Rows PySem.W.X LCg
set_option maxRecDepth 100000
set_option maxHeartbeats 4000000
namespace Mine

theorem key_int {prog : Program} {w : World} {kvs : List (Int × Value)} {i : Nat} {v : Value} (h : ∃ k x, kvs[i]? = some (k, x) ∧ (intKind prog w).is k v = true) : ∃ k x t, kvs[i]? = some (k, x) ∧ v = .int k t := by
  obtain ⟨k, x, h1, h2⟩ := h
  obtain ⟨t, rfl⟩ := Value.isInt_shape h2
  exact ⟨k, x, t, h1, rfl⟩
section
variable {prog : Program} {w : World} {A : Around} {E : Value → Shared → Prop} {s : Shared} {env : Env} {h₀ : Heap} {x : Str} {px : Pos} {body : List Stmt} {Q : Flow → Shared → Prop}

/-- a loop over a dict's keys, by an invariant over the frame and the ledger -/
theorem turns_dict {D : Addr} {oD : Obj} {kvs : List (Int × Value)} {m : Str → Option Value} {news : List (Addr × Obj)} (hh : A.handled = none) (lo : (D == sysModules) = false) (hoD : oD.IsDictOf (intKind prog w) kvs)
    (F : Fr h₀ env.locals s.heap m) (N : News h₀ env.locals s.heap news)
    (J : Nat → (Str → Option Value) → List (Addr × Obj) → Prop) (hJD : ∀ i m nw, J i m nw → (D, oD) ∈ nw) (h0 : J 0 m news)
    (step : ∀ i v m₁ nw h₁ tk₁ I oI, (∃ k x t, kvs[i]? = some (k, x) ∧ v = .int k t) → J i m₁ nw → (∀ p ∈ nw, p.1 ≠ I) → Fr h₀ env.locals h₁ m₁ → News h₀ env.locals h₁ ((I, oI) :: nw) →
      wpAny (model prog w) A (assign (.Name x px) env v) (fun _ s₃ => wpAny (model prog w) A (execs body env) (TurnEnd h₀ env.locals I oI s Q (J (i + 1))) E s₃) E { s with heap := h₁, toks := tk₁ })
    (done : ∀ h' tk m' nw, Fr h₀ env.locals h' m' → News h₀ env.locals h' nw → J kvs.length m' nw → Q .next { s with heap := h', toks := tk }) :
    wpAny (model prog w) A (pyIter (.ref D)) (fun it s₂ => TurnsAt prog w A h₀ env (.Name x px) body Q E it s₂) E s := by
  have hD := hJD _ _ _ h0
  have hDN := N _ hD
  obtain ⟨ep, hK⟩ := KdkAt.of hoD
  have hl := hK.dictAt hDN.1
  have hlt : D < s.heap.objs.size := Heap.lt_size hDN.1
  refine wpAny_pyIter_dict lo hl ?_
  have up : ∀ b o, s.heap.get? b = some o → (s.heap.push { cls := .type "dict_keyiterator", data := .fields #[.ref D, .int 0 0, .int kvs.length 0, .int ep 0] }).get? b = some o := fun b o q => Heap.get?_push_of_some _ q
  have hI₀ : h₀.get? s.heap.objs.size = none := by
    cases q : h₀.get? s.heap.objs.size with
    | none => rfl
    | some o => exact absurd (Heap.lt_size (F.keep _ _ q)) (Nat.lt_irrefl _)
  have hIL : env.locals ≠ s.heap.objs.size := Nat.ne_of_lt F.ns.lt
  have W := Walks.dictKeys (knd := intKind prog w) (A := A) hh s.heap.objs.size D (Nat.ne_of_lt hlt) kvs ep
  refine ⟨s.heap.objs.size, _, _, _, _, _, _, m, news, J, rfl, KTurns.ofWalks (target := .Name x px) W (fun i v s Q E _ h => wpAny_pure h), ?_, ?_, ?_, ⟨⟨_, Heap.get?_push_size _ rfl, rfl, rfl⟩, hl.push _⟩, F.keeps up, N.grown up, h0, ?_, ?_⟩
  · simp only [List.mem_cons, List.not_mem_nil, or_false, not_or]
    exact ⟨hIL, Ne.symm hDN.2.1⟩
  · intro b hb; rw [List.mem_singleton.mp hb]; exact hI₀
  · intro p hp hm; exact Nat.ne_of_lt (Heap.lt_size (N p hp).1) (List.mem_singleton.mp hm)
  · intro i v m₁ nw h₁ tk₁ own hi hP hJ hnw hof hoh hol hst F₁ N₁
    obtain ⟨⟨oI, hoI, _⟩, _⟩ := hst
    have hnI : ∀ p ∈ nw, p.1 ≠ s.heap.objs.size := fun p hp q => hnw p hp (by rw [q]; exact .head _)
    have hown : ∀ nw' : List (Addr × Obj), (D, oD) ∈ nw' → ∀ h', News h₀ env.locals h' ((s.heap.objs.size, oI) :: nw') → News h₀ env.locals h' (own ++ nw') := fun nw' hD' h' N' p hp => by
      rcases List.mem_append.mp hp with q | q
      · have e1 := hoh p q
        rcases List.mem_cons.mp (hof p q) with z | z
        · rw [z] at e1
          rw [hoI] at e1
          have : p = (s.heap.objs.size, oI) := Prod.ext z (Option.some.inj e1).symm
          rw [this]; exact N' _ (.head _)
        · have z := List.mem_singleton.mp z
          have e2 := (N₁ _ (List.mem_append_right _ (hJD _ _ _ hJ))).1
          rw [z] at e1
          dsimp only at e2
          rw [e1] at e2
          have : p = (D, oD) := Prod.ext z (Option.some.inj e2)
          rw [this]; exact N' _ (.tail _ hD')
      · exact N' _ (.tail _ q)
    refine wpAny_mono (step i v m₁ nw h₁ tk₁ s.heap.objs.size oI (key_int hP) hJ hnI F₁ (fun p hp => ?_)) (fun _ s₃ h₃ => wpAny_mono h₃ (fun f s₄ h₄ => ?_) fun _ _ e => e) fun _ _ e => e
    · rcases List.mem_cons.mp hp with rfl | hp
      · exact ⟨hoI, Ne.symm hIL, hI₀⟩
      · exact N₁ p (List.mem_append_right _ hp)
    · cases f with
      | ret v => exact h₄
      | brk => exact h₄
      | next =>
        obtain ⟨h', tk', m', nw', rfl, F', N', hI', hJ'⟩ := h₄
        exact ⟨rfl, h', tk', m', nw', rfl, F', hown _ (hJD _ _ _ hJ') _ N', fun p hp hm => hI' p hp (List.mem_singleton.mp hm), hJ'⟩
      | cont =>
        obtain ⟨h', tk', m', nw', rfl, F', N', hI', hJ'⟩ := h₄
        exact ⟨rfl, h', tk', m', nw', rfl, F', hown _ (hJD _ _ _ hJ') _ N', fun p hp hm => hI' p hp (List.mem_singleton.mp hm), hJ'⟩
  · intro h' tk m' nw F' N' _ hJ
    exact done h' tk m' nw F' N' hJ

theorem copy_dict {src : Addr} {o : Obj} {kvs : List (Int × Value)} {Q : Value → Shared → Prop} {L : Addr} {m : Str → Option Value} {news : List (Addr × Obj)} (F : Fr h₀ L s.heap m) (N : News h₀ L s.heap news) (hbig : h₀.NoLimit) (hm : (src, o) ∈ news) (lo : (src == sysModules) = false) (hd : o.IsDictOf (intKind prog w) kvs) (hsz : kvs.length ≤ sizeLine)
    (h : ∀ d h' o', Fr h₀ L h' m → News h₀ L h' ((d, o') :: news) → (∀ p ∈ news, p.1 < d) → (d == sysModules) = false → o'.IsDictOf (intKind prog w) kvs → Q (.ref d) { s with heap := h' }) :
    wpAny (model prog w) A (call (.type "dict") [.ref src]) Q E s := by
  refine kt_call_dict lo (Heap.dictOf_iff.mpr ⟨o, (N _ hm).1, hd⟩) hsz fun h' hm' hs => ?_
  obtain ⟨o', ho', hd'⟩ := Heap.dictOf_iff.mp hm'
  have N1 := News.push F N { cls := .type "dict", data := .dict #[] }
  exact h _ h' o' ((F.push _).change hs (N1 _ (.head _)).2.1 (N1.fresh (.head _))) (N1.setHead N.apart hs ho') (fun p hp => Heap.lt_size (N p hp).1) (F.notModules (modules_low hbig)) hd'
end

def merL (d e : List (Int × Str)) : List (Int × Str) := e.foldl (fun acc kv => putL acc kv.1 kv.2) d
theorem merL_snoc (d e : List (Int × Str)) (k : Int) (r : Str) : merL d (e ++ [(k, r)]) = putL (merL d e) k r := by
  unfold merL; rw [List.foldl_append]; rfl
theorem KV.get {kvs d} (h : KV kvs d) {i : Nat} {k : Int} {x : Value} (hx : kvs[i]? = some (k, x)) : ∃ r t, x = .str r t ∧ d[i]? = some (k, r) := by
  induction h generalizing i with
  | nil => cases hx
  | cons k' r t _ ih =>
    cases i with
    | zero => cases hx; exact ⟨_, _, rfl, rfl⟩
    | succ i => exact ih hx
theorem merL_take {d e : List (Int × Str)} {i : Nat} {k : Int} {r : Str} (h : e[i]? = some (k, r)) : merL d (e.take (i + 1)) = putL (merL d (e.take i)) k r := by
  rw [List.take_add_one, h, ← merL_snoc]; rfl
theorem valueAt_get {kvs : List (Int × Value)} (hn : (kvs.map (·.1)).Nodup) {i : Nat} {k : Int} {x : Value} (h : kvs[i]? = some (k, x)) : valueAt kvs k = some x := by
  induction kvs generalizing i with
  | nil => cases h
  | cons kv r ih =>
    rw [List.map_cons, List.nodup_cons] at hn
    unfold valueAt
    cases i with
    | zero => cases h; simp [List.find?]
    | succ i =>
      have hr : r[i]? = some (k, x) := h
      have hm : k ∈ r.map (·.1) := List.mem_map.mpr ⟨(k, x), List.mem_of_getElem? hr, rfl⟩
      have hne : ¬ kv.1 = k := fun q => hn.1 (q ▸ hm)
      rw [List.find?_cons]
      simp only [hne, decide_false]
      exact ih hn.2 hr
theorem stored_len (kvs : List (Int × Value)) (k : Int) (v : Value) : (stored kvs k v).length ≤ kvs.length + 1 := by
  unfold stored; split <;> simp

/-- merged_program's loop -/
structure JM (w : World) (kp : List (Int × Value)) (dP dQ : List (Int × Str)) (qa da : Addr) (news : List (Addr × Obj)) (i : Nat) (m : Str → Option Value) (nw : List (Addr × Obj)) : Prop where
  hf : m (Str.ofString "found") = some (.ref da)
  hq : m (Str.ofString "other") = some (.ref qa)
  ex : ∃ o kvs, nw = (da, o) :: news ∧ o.IsDictOf (intKind PySem.Challenge.rw_pq0156_01.row.toRowW.prog w) kvs ∧ KV kvs (merL dP (dQ.take i)) ∧ kvs.length ≤ kp.length + i

section
variable {w : World} {p : Program} {loose : List Str} {mean : ExcName → Option Value} {mg mb : Str → Option Value}
  {dp un : Nat} {gd : Option (List Code)} {cn : Str} {nm : List (Str × NameKind)} {ig ic : Bool} {mo : List (Str × Const)} {a : Addr} {ccd : Value} {cl : List (Str × Addr)} {outer : List Env} {A₀ : Around} {base h₀ : Heap} {L : Addr} {m : Str → Option Value} {s : Shared} {Q E : Value → Shared → Prop}
  {news rest : List (Addr × Obj)} {g : Obj → List (Addr × Obj)}

theorem afresh_M22 : True := by
  w_top off
  k_with_none
  trivial
theorem lines1_M22 : True := by
  k_with "mine k_room" => (ktr_room)
  k_with "mine look" => (first | assumption | exact if_pos rfl | (refine (if_neg (by decide)).trans ?_; walk_at "mine look") | rfl)
  k_with "eval Name" => ((k_here; k_dflt (refine' PyProof.Rows.ld ?z3k1 ?z3k2 ?_; (case z3k1 => k_asm); (case z3k2 => walk_at "mine look"); k_whole)))
  k_with "loadName" => ((k_here; k_dflt (refine' PyProof.Rows.ldn ?z4k1 ?z4k2 ?_; (case z4k1 => k_asm); (case z4k2 => walk_at "mine look"); k_whole)))
  k_with "subscriptTail" => (((with_reducible show wpAny _ _ (subscriptTail _ _ (Value.ref _) (Value.int _ _)) _ _ _); with_unfolding_all refine' item_dict ?z5k1 ?z5k2 ?z5k3 ?z5k4 ?z5k5 ?_ ?z5k6 ?z5k7; (case z5k1 => assumption); (case z5k2 => assumption); (case z5k3 => assumption); (case z5k4 => exact intKind_is _ _ _ _); (case z5k5 => assumption); (case z5k6 => with_unfolding_all rfl); (case z5k7 => intro _; with_unfolding_all rfl)))
  trivial

theorem merged_spec {pa qa : Addr} {op oq : Obj} {kp kq : List (Int × Value)} {dP dQ : List (Int × Str)}
    (B : Below A₀ base outer h₀) (F : Fr h₀ L s.heap m) (X : (hd.heap_39 w.params).In h₀) (N : News h₀ L s.heap news) (T : Top p loose mean mg mb h₀)
    (hdp : dp + 10 < recursionLimit) (hp : (pa, op) ∈ news) (hq : (qa, oq) ∈ news) (lop : (pa == sysModules) = false) (loq : (qa == sysModules) = false)
    (hop : op.IsDictOf (intKind PySem.Challenge.rw_pq0156_01.row.toRowW.prog w) kp) (hoq : oq.IsDictOf (intKind PySem.Challenge.rw_pq0156_01.row.toRowW.prog w) kq) (hkp : KV kp dP) (hkq : KV kq dQ) (hlp : kp.length ≤ 100) (hlq : kq.length ≤ 100)
    (hret : ∀ d o kvs h' tk', o.IsDictOf (intKind PySem.Challenge.rw_pq0156_01.row.toRowW.prog w) kvs → KV kvs (merL dP dQ) → kvs.length ≤ kp.length + kq.length → (d == sysModules) = false → (∀ p ∈ news, p.1 ≠ d) → Fr h₀ L h' m → News h₀ L h' ((d, o) :: news) → Q (.ref d) { s with heap := h', toks := tk' }) :
    wpAny (model PySem.Challenge.rw_pq0156_01.row.toRowW.prog w) (ktrTop dp un gd cn (fsc nm ig ic mo) L a ccd cl outer) (call (.ref 58) [.ref pa, .ref qa]) Q E s := by
  revert X; k_fill; intro X
  refine wpAny_call ?_
  k_dflt k_enter
  iterate 9 (first | (k_unfold; (try dsimp only)) | walk1)
  refine copy_dict (by k_asm) (by k_asm) (Top.nolimit (by k_asm)) hp lop hop (Nat.le_trans hlp (by rw [sizeLine_eq]; decide)) ?_
  intro d h2 o2 F2 N2 l2 lo2 ho2
  iterate 3 (first | (k_unfold; (try dsimp only)) | walk1)
  rename_i hh1 F1 N1
  refine For_turns (by k_asm) ?_
  walk1
  have hnd : ∀ p ∈ news, p.1 ≠ d := fun p hp => Nat.ne_of_lt (l2 p hp)
  have hql : kq.length = dQ.length := hkq.len
  refine turns_dict (oD := oq) (kvs := kq) rfl loq hoq F1 N1 (JM w kp dP dQ qa d news) (fun i m nw h => let ⟨_, _, e, _⟩ := h.ex; e ▸ .tail _ hq) ⟨rfl, rfl, o2, kp, rfl, ho2, hkp, Nat.le_add_right _ _⟩ ?step ?done
  case step =>
    rintro i v m₁ nw h₁ tk₁ I oI ⟨k, x, t, hkx, rfl⟩ ⟨hf, hqn, o, kvs, rfl, ho, hkv, hkl⟩ hnI F3 N3
    obtain ⟨r, tr, rfl, hdr⟩ := hkq.get hkx
    have hva : valueAt kq k = some (.str r tr) := valueAt_get (let ⟨_, _, _, _, _, _, hn⟩ := hoq; hn) hkx
    have hi : i < kq.length := (List.getElem?_eq_some_iff.mp hkx).1
    have hsz : kvs.length ≤ sizeLine := by rw [sizeLine_eq]; omega
    have hq' : (qa, oq) ∈ (I, oI) :: (d, o) :: news := .tail _ (.tail _ hq)
    have hdI : d ≠ I := hnI _ (.head _)
    k_steps
    with_unfolding_all refine item_dict (by k_asm) hq' hoq (intKind_is _ _ _ _) hva ?_ (by with_unfolding_all rfl) (by intro _; with_unfolding_all rfl)
    k_steps
    refine put_dict (by k_asm) (by k_asm) (.tail (Ne.symm hdI) (.head hnd)) ho hsz fun h4 tk4 o4 F4 N4 d4 => ?_
    k_steps
    refine turn_end (nw' := (d, o4) :: news) (.inl rfl) (by k_asm) (by k_asm) (fun _ h => h) (fun p hp => ?_) ⟨by walk_at "mine look", by walk_at "mine look", o4, _, rfl, d4, ?_, ?_⟩
    · rcases List.mem_cons.mp hp with q | hp
      · rw [q]; exact hdI
      · exact hnI p (.tail _ hp)
    · rw [merL_take hdr]; exact hkv.put _ _ _
    · exact Nat.le_trans (stored_len _ _ _) (by omega)
  case done =>
    rintro h3 tk3 m3 nw F3 N3 ⟨hf, hqn, o, kvs, rfl, ho, hkv, hkl⟩
    k_steps
    rw [hql, List.take_length] at hkv
    exact hret _ _ _ _ _ ho hkv hkl lo2 hnd (by assumption) (by assumption)
end
end Mine
end

-- part M24
section
open PySem PySem.W PySem.Calls PyProof.Rows PySem.W.X LCg
set_option maxRecDepth 100000
set_option maxHeartbeats 4000000
namespace Mine

section
variable {prog : Program} {w : World} {A : Around} {E : Value → Shared → Prop} {s : Shared} {env : Env} {h₀ : Heap} {x : Str} {px : Pos} {body : List Stmt} {Q : Flow → Shared → Prop}

/-- a loop over a range, by an invariant over the frame and the ledger -/
theorem turns_range {r : Addr} {n : Nat} {t0 u0 v0 : Tok} {m : Str → Option Value} {news : List (Addr × Obj)} (hh : A.handled = none) (hr : IsRange s.heap r 0 n 1 t0 u0 v0) (hn : n < 1000)
    (F : Fr h₀ env.locals s.heap m) (N : News h₀ env.locals s.heap news)
    (J : Nat → (Str → Option Value) → List (Addr × Obj) → Prop) (h0 : J 0 m news)
    (step : ∀ i v m₁ nw h₁ tk₁ I oI, (i < n ∧ ∃ t, v = .int i t) → J i m₁ nw → (∀ p ∈ nw, p.1 ≠ I) → Fr h₀ env.locals h₁ m₁ → News h₀ env.locals h₁ ((I, oI) :: nw) →
      wpAny (model prog w) A (assign (.Name x px) env v) (fun _ s₃ => wpAny (model prog w) A (execs body env) (TurnEnd h₀ env.locals I oI s Q (J (i + 1))) E s₃) E { s with heap := h₁, toks := tk₁ })
    (done : ∀ h' tk m' nw, Fr h₀ env.locals h' m' → News h₀ env.locals h' nw → J n m' nw → Q .next { s with heap := h', toks := tk }) :
    wpAny (model prog w) A (pyIter (.ref r)) (fun it s₂ => TurnsAt prog w A h₀ env (.Name x px) body Q E it s₂) E s := by
  refine wpAny_pyIter_range hr (small_one (by omega) (by omega) (by omega) (by omega)) ?_
  have up : ∀ (o : Obj) b o', s.heap.get? b = some o' → (s.heap.push o).get? b = some o' := fun o b o' q => Heap.get?_push_of_some _ q
  have hI₀ : h₀.get? s.heap.objs.size = none := by
    cases q : h₀.get? s.heap.objs.size with
    | none => rfl
    | some o => exact absurd (Heap.lt_size (F.keep _ _ q)) (Nat.lt_irrefl _)
  have hIL : env.locals ≠ s.heap.objs.size := Nat.ne_of_lt F.ns.lt
  have W := range_walks (prog := prog) (w := w) (A := A) (I := s.heap.objs.size) hh 0 n
  refine ⟨s.heap.objs.size, _, _, _, _, _, _, m, news, J, rfl, KTurns.ofWalks (target := .Name x px) W (fun i v s Q E _ h => wpAny_pure h), ?_, ?_, ?_, ?_, F.keeps (up _), N.grown (up _), h0, ?_, ?_⟩
  · simp only [List.mem_cons, List.not_mem_nil, or_false]
    exact hIL
  · intro b hb; rw [List.mem_singleton.mp hb]; exact hI₀
  · intro p hp hm; exact Nat.ne_of_lt (Heap.lt_size (N p hp).1) (List.mem_singleton.mp hm)
  · have e : Builtin.Range.rangeSize 0 n 1 = (n : Int) := by rw [rangeSize_nat]; omega
    refine (Heap.get?_push_size _ rfl).trans ?_
    rw [e]
    simp
  · intro i v m₁ nw h₁ tk₁ own hi hP hJ hnw hof hoh hol hst F₁ N₁
    obtain ⟨oI, hoI⟩ : ∃ oI, h₁.get? s.heap.objs.size = some oI := ⟨_, hst⟩
    have hnI : ∀ p ∈ nw, p.1 ≠ s.heap.objs.size := fun p hp q => hnw p hp (by rw [q]; exact .head _)
    have hown : ∀ nw' h' oI, h₁.get? s.heap.objs.size = some oI → News h₀ env.locals h' ((s.heap.objs.size, oI) :: nw') → News h₀ env.locals h' (own ++ nw') := fun nw' h' oI hoI N' p hp => by
      rcases List.mem_append.mp hp with q | q
      · have e1 := hoh p q
        have z := List.mem_singleton.mp (hof p q)
        rw [z] at e1
        rw [hoI] at e1
        have : p = (s.heap.objs.size, oI) := Prod.ext z (Option.some.inj e1).symm
        rw [this]; exact N' _ (.head _)
      · exact N' _ (.tail _ q)
    obtain ⟨t, rfl⟩ := hP
    refine wpAny_mono (step i _ m₁ nw h₁ tk₁ s.heap.objs.size oI ⟨hi, t, by rw [Int.zero_add]⟩ hJ hnI F₁ (fun p hp => ?_)) (fun _ s₃ h₃ => wpAny_mono h₃ (fun f s₄ h₄ => ?_) fun _ _ e => e) fun _ _ e => e
    · rcases List.mem_cons.mp hp with rfl | hp
      · exact ⟨hoI, Ne.symm hIL, hI₀⟩
      · exact N₁ p (List.mem_append_right _ hp)
    · cases f with
      | ret v => exact h₄
      | brk => exact h₄
      | next =>
        obtain ⟨h', tk', m', nw', rfl, F', N', hI', hJ'⟩ := h₄
        exact ⟨rfl, h', tk', m', nw', rfl, F', hown _ _ _ hoI N', fun p hp hm => hI' p hp (List.mem_singleton.mp hm), hJ'⟩
      | cont =>
        obtain ⟨h', tk', m', nw', rfl, F', N', hI', hJ'⟩ := h₄
        exact ⟨rfl, h', tk', m', nw', rfl, F', hown _ _ _ hoI N', fun p hp hm => hI' p hp (List.mem_singleton.mp hm), hJ'⟩
  · intro h' tk m' nw F' N' _ hJ
    exact done h' tk m' nw F' N' hJ
end

theorem allLt_mem {d : Nat} {l : List (Addr × Obj)} (h : AllLt d l) : ∀ p ∈ l, p.1 < d := by
  induction l with
  | nil => intro p hp; cases hp
  | cons q r ih =>
    intro p hp
    rcases List.mem_cons.mp hp with e | hp
    · rw [e]; exact h.1
    · exact ih h.2 p hp
/-- the lines that a program of the law may have -/
def KS : List Int := [0, 10, 20, 30, 40, 50]
theorem KS_of {k v : Int} (hk : k = 10 * v) (h0 : 0 ≤ v) (h1 : v < 6) : k ∈ KS := by
  have : v = 0 ∨ v = 1 ∨ v = 2 ∨ v = 3 ∨ v = 4 ∨ v = 5 := by omega
  subst hk
  rcases this with rfl | rfl | rfl | rfl | rfl | rfl <;> decide
theorem KS_put {d : List (Int × Str)} {k : Int} {r : Str} (hd : ∀ kv ∈ d, kv.1 ∈ KS) (hk : k ∈ KS) : ∀ kv ∈ putL d k r, kv.1 ∈ KS := by
  intro kv hm
  unfold putL at hm
  split at hm
  · obtain ⟨q, hq, rfl⟩ := List.mem_map.mp hm
    by_cases e : q.1 = k
    · simp only [e, if_true]; exact hk
    · simp only [e, if_false]; exact hd q hq
  · rcases List.mem_append.mp hm with hm | hm
    · exact hd kv hm
    · rw [List.mem_singleton.mp hm]; exact hk
/-- _law_program's loop -/
structure JP (w : World) (k₀ : Int) (sd rl da : Addr) (ol : Obj) (rest : List (Addr × Obj)) (i : Nat) (m : Str → Option Value) (nw : List (Addr × Obj)) : Prop where
  hf : m (Str.ofString "found") = some (.ref da)
  hs : m (Str.ofString "strip") = some (.ref sd)
  ex : ∃ o kvs dl os k', nw = (da, o) :: (sd, os) :: (rl, ol) :: rest ∧ o.IsDictOf (intKind PySem.Challenge.rw_pq0156_01.row.toRowW.prog w) kvs ∧ KV kvs dl ∧ (∀ kv ∈ dl, kv.1 ∈ KS) ∧ kvs.length ≤ i ∧ IsStrip w os rl k' ∧ k₀ ≤ k' ∧ k' ≤ k₀ + 1 + 3 * (i : Int)

section
variable {w : World} {p : Program} {loose : List Str} {mean : ExcName → Option Value} {mg mb : Str → Option Value}
  {dp un : Nat} {gd : Option (List Code)} {cn : Str} {nm : List (Str × NameKind)} {ig ic : Bool} {mo : List (Str × Const)} {a : Addr} {ccd : Value} {cl : List (Str × Addr)} {outer : List Env} {A₀ : Around} {base h₀ : Heap} {L : Addr} {m : Str → Option Value} {s : Shared} {Q E : Value → Shared → Prop}
  {news rest : List (Addr × Obj)} {g : Obj → List (Addr × Obj)}

theorem afresh_M24 : True := by
  w_top off
  k_with_none
  trivial
theorem lines1_M24 : True := by
  k_with "mine k_room" => (ktr_room)
  k_with "mine k_all" => (assumption)
  k_with "mine look" => (first | assumption | exact if_pos rfl | (refine (if_neg (by decide)).trans ?_; walk_at "mine look") | rfl)
  k_with "eval Name" => ((k_here; k_dflt (refine' PyProof.Rows.ld ?z4k1 ?z4k2 ?_; (case z4k1 => k_asm); (case z4k2 => walk_at "mine look"); k_whole)))
  k_with "loadName" => ((k_here; k_dflt (refine' PyProof.Rows.ldn ?z5k1 ?z5k2 ?_; (case z5k1 => k_asm); (case z5k2 => walk_at "mine look"); k_whole)))
  k_with "call ref" => ((k_here; k_dflt (refine' pick_at ?z6k1 ?z6k2 ?z6k3 ?z6k4 ?z6k5 ?z6k6 ?z6k7 ?z6k8 ?z6k9 ?z6k10 ?z6k11 ?z6k12 ?z6k13 ?z6k14 ?_; (case z6k1 => k_asm); (case z6k2 => k_asm); (case z6k3 => k_asm); (case z6k4 => k_asm); (case z6k5 => k_asm); (case z6k6 => k_updF); (case z6k8 => assumption); (case z6k9 => assumption); (case z6k7 => k_mem); (case z6k10 => ktr_room); (case z6k11 => omega); (case z6k12 => omega); (case z6k13 => decide); (case z6k14 => decide); k_whole); intro _ _ _ _ _ _ _ _ _ _))
  trivial

theorem lines2_M24 : True := by
  k_with "call type:range" => ((k_here; refine range1_rows (by k_asm) (by k_asm) ?_; intro _ _ _ _ _ _ _ _ _))
  trivial
theorem program_spec {sd rl : Addr} {k : Int} {ns : List Int} {os ol : Obj}
    (B : Below A₀ base outer h₀) (F : Fr h₀ L s.heap m) (X : (hd.heap_39 w.params).In h₀) (N : News h₀ L s.heap ((sd, os) :: (rl, ol) :: rest)) (T : Top p loose mean mg mb h₀)
    (hrest : ∀ p ∈ ((rl, ol) :: rest), p.1 ≠ sd) (ho : IsStrip w os rl k) (hol : IsRow ol ns)
    (hdp : dp + 20 < recursionLimit) (hk0 : 0 ≤ k) (hk1 : k < 900)
    (hret : ∀ d o kvs dl os' k' h' tk', o.IsDictOf (intKind PySem.Challenge.rw_pq0156_01.row.toRowW.prog w) kvs → KV kvs dl → (∀ kv ∈ dl, kv.1 ∈ KS) → kvs.length ≤ 4 → k ≤ k' → k' ≤ k + 20 → IsStrip w os' rl k' → (d == sysModules) = false → (∀ p ∈ ((sd, os) :: (rl, ol) :: rest), p.1 ≠ d) →
      Fr h₀ L h' m → News h₀ L h' ((d, o) :: (sd, os') :: (rl, ol) :: rest) → Q (.ref d) { s with heap := h', toks := tk' }) :
    wpAny (model PySem.Challenge.rw_pq0156_01.row.toRowW.prog w) (ktrTop dp un gd cn (fsc nm ig ic mo) L a ccd cl outer) (call (.ref 89) [.ref sd]) Q E s := by
  revert X; k_fill; intro X
  refine wpAny_call ?_
  k_dflt k_enter
  iterate 6 (first | (k_unfold; (try dsimp only)) | walk1)
  rename_i da hq0 od lod hs fs hi fi ld hh F1 N1
  have hnd : ∀ p ∈ ((sd, os) :: (rl, ol) :: rest), p.1 ≠ da := fun p hp => by
    rcases List.mem_cons.mp hp with rfl | hp
    · exact Nat.ne_of_lt ld.1
    · rcases List.mem_cons.mp hp with rfl | hp
      · exact Nat.ne_of_lt ld.2.1
      · exact Nat.ne_of_lt (allLt_mem ld.2.2 p hp)
  have hds : da ≠ sd := Ne.symm (hnd _ (.head _))
  refine For_turns (by k_asm) ?_
  iterate 15 walk1
  rename_i v1 tv1 hq2 tk2 os2 hv0 hv1 hS2 F2 N2
  refine range1_rows (by k_asm) (by k_asm) ?_
  intro h3 tk3 t3 u3 w3 hr3 F3 N3 k3
  obtain ⟨n, rfl⟩ : ∃ n : Nat, v1 = n := ⟨v1.toNat, by omega⟩
  have hn5 : n < 5 := by omega
  refine turns_range (n := n) rfl hr3 (by omega) F3 N3 (JP w k sd rl da ol rest) ⟨rfl, rfl, od, [], [], os2, k + 1, rfl, hi, .nil, (fun kv h => absurd h (by simp)), Nat.zero_le _, hS2, by omega, by omega⟩ ?step ?done
  case step =>
    rintro i v m₁ nw h₁ tk₁ I oI ⟨hin, t, rfl⟩ ⟨hf, hsn, o, kvs, dl, osn, k', rfl, hod, hkv, hks, hkl, hSn, hk'0, hk'1⟩ hnI F4 N4
    have hdI : da ≠ I := hnI _ (.head _)
    have hsI : sd ≠ I := hnI _ (.tail _ (.head _))
    have hkz : kvs.length ≤ sizeLine := by rw [sizeLine_eq]; omega
    have hIs : I ≠ sd := Ne.symm hsI
    have hdr : ∀ o', ∀ p ∈ ((sd, o') :: (rl, ol) :: rest), p.1 ≠ da := fun o' p hp => by
      rcases List.mem_cons.mp hp with q | hp
      · rw [q]; exact Ne.symm hds
      · exact hnd p (.tail _ hp)
    k_steps
    rename IsStrip _ _ _ _ => hSf
    refine put_dict (by k_asm) (by k_asm) (.tail (Ne.symm hdI) (.head (hdr _))) hod hkz fun h6 tk6 o6 F6 N6 d6 => ?_
    k_steps
    refine turn_end (nw' := (da, o6) :: (sd, _) :: (rl, ol) :: rest) (.inl rfl) (by k_asm) (by k_asm) (fun _ h => h) (fun p hp => ?_) ⟨by walk_at "mine look", by walk_at "mine look", o6, _, _, _, _, rfl, d6, hkv.put _ _ _, KS_put hks (KS_of rfl (by assumption) (by assumption)), ?_, hSf, by omega, by omega⟩
    · rcases List.mem_cons.mp hp with q | hp
      · rw [q]; exact hdI
      · rcases List.mem_cons.mp hp with q | hp
        · rw [q]; exact hsI
        · exact hnI p (.tail _ (.tail _ hp))
    · exact Nat.le_trans (stored_len _ _ _) (by omega)
  case done =>
    rintro h5 tk5 m5 nw F5 N5 ⟨hf, hsn, o, kvs, dl, osn, k', rfl, hod, hkv, hks, hkl, hSn, hk'0, hk'1⟩
    k_steps
    exact hret _ _ _ _ _ _ _ _ hod hkv hks (by omega) hk'0 (by omega) hSn lod hnd (by assumption) (by assumption)
end
end Mine
end

-- part P1
section
open PySem PySem.W PySem.Calls PyProof.Rows PySem.W.X LCg
set_option maxRecDepth 100000
set_option maxHeartbeats 4000000
namespace Mine
theorem afresh_P1 : True := by
  w_top off
  k_with_none
  trivial

abbrev TD := List (Int × Str)
def look (d : TD) (k : Int) : Option Str := (d.find? fun kv => kv.1 = k).map (·.2)
def NK (d : TD) : Prop := (d.map (·.1)).Nodup
theorem look_cons (k' : Int) (r : Str) (d : TD) (k : Int) : look ((k', r) :: d) k = if k' = k then some r else look d k := by
  unfold look
  rw [List.find?_cons]
  by_cases h : k' = k
  · simp [h]
  · simp [h]
theorem look_none {d : TD} {k : Int} : look d k = none ↔ k ∉ d.map (·.1) := by
  induction d with
  | nil => simp [look]
  | cons kv d ih =>
    rw [look_cons kv.1 kv.2]
    by_cases h : kv.1 = k
    · simp [h]
    · simp only [h, if_false, ih, List.map_cons, List.mem_cons, not_or]
      exact ⟨fun h1 => ⟨fun q => h q.symm, h1⟩, fun h1 => h1.2⟩
theorem look_append (d e : TD) (k : Int) : look (d ++ e) k = match look d k with | some r => some r | none => look e k := by
  induction d with
  | nil => rfl
  | cons kv d ih =>
    rw [List.cons_append, look_cons kv.1 kv.2, look_cons kv.1 kv.2]
    by_cases h : kv.1 = k
    · simp [h]
    · simp only [h, if_false]; exact ih
theorem keys_put (d : TD) (k : Int) (r : Str) : (putL d k r).map (·.1) = if k ∈ d.map (·.1) then d.map (·.1) else d.map (·.1) ++ [k] := by
  unfold putL
  by_cases h : k ∈ d.map (·.1)
  · have ha : d.any (fun kv => decide (kv.1 = k)) = true := by
      obtain ⟨kv, hm, e⟩ := List.mem_map.mp h
      exact List.any_eq_true.mpr ⟨kv, hm, by simpa using e⟩
    rw [ha]
    simp only [if_true, h]
    rw [List.map_map]
    congr 1
    funext kv
    by_cases q : kv.1 = k <;> simp [q]
  · have ha : d.any (fun kv => decide (kv.1 = k)) = false := by
      rw [List.any_eq_false]
      intro kv hm q
      exact h (List.mem_map.mpr ⟨kv, hm, by simpa using q⟩)
    rw [ha]
    simp [h]
theorem nk_put {d : TD} (h : NK d) (k : Int) (r : Str) : NK (putL d k r) := by
  unfold NK at *
  rw [keys_put]
  by_cases q : k ∈ d.map (·.1)
  · simp only [q, if_true]; exact h
  · simp only [q, if_false]
    rw [List.nodup_append]
    exact ⟨h, by simp, fun a ha b hb e => q (by rw [List.mem_singleton.mp hb] at e; exact e ▸ ha)⟩
theorem look_map_put (k : Int) (r : Str) (k' : Int) : ∀ d : TD, look (d.map (fun kv => if kv.1 = k then (kv.1, r) else kv)) k' = if k' = k then (if k ∈ d.map (·.1) then some r else none) else look d k' := by
  intro d
  induction d with
  | nil => simp [look]
  | cons kv d ih =>
    obtain ⟨a, b⟩ := kv
    rw [List.map_cons]
    by_cases h : a = k
    · subst h
      simp only [if_true]
      rw [look_cons, look_cons]
      by_cases q : a = k'
      · subst q; simp
      · have q' : ¬ k' = a := fun e => q e.symm
        simp only [q, q', if_false] at ih ⊢
        exact ih
    · simp only [h, if_false]
      rw [look_cons, look_cons, ih]
      by_cases q : a = k'
      · subst q; simp [h]
      · simp only [q, if_false, List.map_cons, List.mem_cons]
        by_cases z : k' = k
        · subst z
          have this : ¬ k' = a := fun e => h e.symm
          by_cases hm : k' ∈ d.map (·.1)
          · simp only [hm, if_true, or_true]
          · simp only [hm, this, if_false, or_self, if_true]
        · simp [z]
theorem look_put (d : TD) (k : Int) (r : Str) (k' : Int) : look (putL d k r) k' = if k' = k then some r else look d k' := by
  unfold putL
  by_cases h : k ∈ d.map (·.1)
  · have ha : d.any (fun kv => decide (kv.1 = k)) = true := by
      obtain ⟨kv, hm, e⟩ := List.mem_map.mp h
      exact List.any_eq_true.mpr ⟨kv, hm, by simpa using e⟩
    rw [ha]
    simp only [if_true]
    rw [look_map_put]
    simp [h]
  · have ha : d.any (fun kv => decide (kv.1 = k)) = false := by
      rw [List.any_eq_false]
      intro kv hm q
      exact h (List.mem_map.mpr ⟨kv, hm, by simpa using q⟩)
    rw [ha]
    simp only [Bool.false_eq_true, if_false]
    rw [look_append, look_cons]
    by_cases q : k' = k
    · subst q
      rw [look_none.mpr h]; simp
    · have q' : ¬ k = k' := fun e => q e.symm
      simp only [q, q', if_false]
      cases look d k' <;> simp [look]
theorem nk_mer {d : TD} (h : NK d) (e : TD) : NK (merL d e) := by
  unfold merL
  induction e generalizing d with
  | nil => exact h
  | cons kv e ih => exact ih (nk_put h _ _)
theorem look_mer (d : TD) {e : TD} (he : NK e) (k : Int) : look (merL d e) k = match look e k with | some r => some r | none => look d k := by
  unfold merL
  induction e generalizing d with
  | nil => rfl
  | cons kv e ih =>
    obtain ⟨a, b⟩ := kv
    have hn : a ∉ e.map (·.1) ∧ NK e := List.nodup_cons.mp he
    rw [List.foldl_cons, ih _ hn.2, look_cons, look_put]
    by_cases q : a = k
    · subst q
      rw [look_none.mpr hn.1]; simp
    · have q' : ¬ k = a := fun z => q z.symm
      simp [q, q']
theorem keys_iff {d e : TD} (h : ∀ k, look d k = look e k) (k : Int) : k ∈ d.map (·.1) ↔ k ∈ e.map (·.1) := by
  have h1 := look_none (d := d) (k := k)
  have h2 := look_none (d := e) (k := k)
  rw [h k] at h1
  exact ⟨fun a => Classical.byContradiction fun b => h1.mp (h2.mpr b) a, fun a => Classical.byContradiction fun b => h2.mp (h1.mpr b) a⟩
theorem len_of_look {d e : TD} (hd : NK d) (he : NK e) (h : ∀ k, look d k = look e k) : d.length = e.length := by
  have hp : (d.map (·.1)).Perm (e.map (·.1)) := (List.perm_ext_iff_of_nodup hd he).mpr (keys_iff h)
  simpa using hp.length_eq
theorem look_mem {d : TD} (hd : NK d) {k : Int} {r : Str} (h : (k, r) ∈ d) : look d k = some r := by
  induction d with
  | nil => cases h
  | cons kv d ih =>
    obtain ⟨a, b⟩ := kv
    have hn : a ∉ d.map (·.1) ∧ NK d := List.nodup_cons.mp hd
    rw [look_cons]
    rcases List.mem_cons.mp h with e | h
    · cases e; simp
    · have : ¬ a = k := fun q => hn.1 (q ▸ List.mem_map.mpr ⟨(k, r), h, rfl⟩)
      simp only [this, if_false]
      exact ih hn.2 h
theorem KV.keys {kvs d} (h : KV kvs d) : kvs.map (·.1) = d.map (·.1) := by
  induction h with
  | nil => rfl
  | cons _ _ _ _ ih => simp [ih]
theorem KV.value {kvs d} (h : KV kvs d) {k : Int} {r : Str} (hl : look d k = some r) : ∃ t, valueAt kvs k = some (.str r t) := by
  induction h with
  | nil => cases hl
  | cons k' r' t _ ih =>
    rw [look_cons] at hl
    unfold valueAt
    rw [List.find?_cons]
    by_cases q : k' = k
    · simp only [q, if_true, Option.some.injEq] at hl
      subst hl
      exact ⟨t, by simp [q]⟩
    · simp only [q, if_false] at hl
      obtain ⟨t', ht⟩ := ih hl
      refine ⟨t', ?_⟩
      simp only [q, decide_false]
      exact ht
theorem hits_true {A : Around} {s : Shared} {ka kb : List (Int × Value)} {da db : TD} (ha : KV ka da) (hb : KV kb db) (h : ∀ k r, (k, r) ∈ da → look db k = some r) : KeqHits A s kb ka true := by
  induction ha with
  | nil => exact .nil
  | cons k r t _ ih =>
    obtain ⟨t', ht⟩ := hb.value (h k r (.head _))
    have e : SeqAt.EqAt A s (.str r t) (.str r t') true := by
      have := keq_flat (A := A) (s := s) (v := .str r t) (y := .str r t') (d := .str r) (e := .str r) (.str r t) (.str r t')
      have e2 : PyData.eqv (.str r) (.str r) = true := by simp [PyData.eqv]
      rw [e2] at this; exact this
    exact KeqHits.hit (e := true) (b := true) ht e (ih fun k' r' hm => h k' r' (.tail _ hm))
/-- two dicts that tell the same are equal -/
theorem same_hits {A : Around} {s : Shared} {ka kb : List (Int × Value)} {da db : TD} (ha : KV ka da) (hb : KV kb db) (na : NK da) (nb : NK db) (h : ∀ k, look da k = look db k) : ka.length = kb.length ∧ KeqHits A s kb ka true :=
  ⟨by rw [ha.len, hb.len]; exact len_of_look na nb h, hits_true ha hb fun k r hm => by rw [← h k]; exact look_mem na hm⟩
theorem nk_of {prog : Program} {w : World} {o : Obj} {kvs d} (ho : o.IsDictOf (intKind prog w) kvs) (h : KV kvs d) : NK d := by
  unfold NK
  rw [← h.keys]
  exact let ⟨_, _, _, _, _, _, hn⟩ := ho; hn
theorem mer_twice {d e : TD} (he : NK e) (k : Int) : look (merL (merL d e) e) k = look (merL d e) k := by
  rw [look_mer _ he, look_mer _ he]; cases look e k <;> rfl
theorem mer_nil_l {e : TD} (he : NK e) (k : Int) : look (merL [] e) k = look e k := by
  rw [look_mer _ he]; cases look e k <;> rfl
theorem mer_nil_r (d : TD) : merL d [] = d := rfl
theorem mer_assoc {d e f : TD} (he : NK e) (hf : NK f) (k : Int) : look (merL (merL d e) f) k = look (merL d (merL e f)) k := by
  rw [look_mer _ hf, look_mer _ he, look_mer _ (nk_mer he f), look_mer _ hf]
  cases look f k <;> cases look e k <;> rfl
end Mine
end

-- part P2
section
open PySem PySem.W PySem.Calls PyProof.Rows PySem.W.X LCg
set_option maxRecDepth 100000
set_option maxHeartbeats 4000000
namespace Mine

theorem first_line : ∀ {p a X b : List Nat}, 10 ∉ p → 10 ∉ a → (X = [] ∨ ∃ Y, X = 10 :: Y) → p ++ X = a ++ 10 :: b → p = a ∧ X = 10 :: b
  | [], [], X, b, _, _, _, e => ⟨rfl, e⟩
  | [], c :: a, X, b, _, ha, hX, e => by
    rcases hX with rfl | ⟨Y, rfl⟩
    · cases e
    · have : 10 = c := (List.cons.inj e).1
      exact absurd (List.mem_cons.mpr (.inl this)) ha
  | c :: p, [], X, b, hp, _, _, e => by
    have : c = 10 := (List.cons.inj e).1
    exact absurd (List.mem_cons.mpr (.inl this.symm)) hp
  | c :: p, c' :: a, X, b, hp, ha, hX, e => by
    obtain ⟨e1, e2⟩ := List.cons.inj e
    obtain ⟨h1, h2⟩ := first_line (fun h => hp (.tail _ h)) (fun h => ha (.tail _ h)) hX e2
    exact ⟨by rw [e1, h1], h2⟩
theorem nl_str : Str.ofString "\n" = ⟨#[10]⟩ := by decide
theorem str_eq {x y : Str} (h : x.cps.toList = y.cps.toList) : x = y := by
  obtain ⟨x⟩ := x; obtain ⟨y⟩ := y
  congr 1
  exact Array.toList_inj.mp h
theorem join_two (a b : Str) : (Txt.join (Str.ofString "\n") [a, b]).cps.toList = a.cps.toList ++ 10 :: b.cps.toList := by
  rw [join_toList]
  simp [nl_str]
/-- two rows without a line's end, joined and split again -/
theorem split_two {a b : Str} (ha : NoNl a) (hb : NoNl b) : Txt.split (Txt.join (Str.ofString "\n") [a, b]) (Str.ofString "\n") = [a, b] := by
  have hj := StrLaws.join_split (Txt.join (Str.ofString "\n") [a, b]) (Str.ofString "\n")
  have hf := StrLaws.split_free (Txt.join (Str.ofString "\n") [a, b]) 10
  rw [← nl_str] at hf
  have hpos := split_pos (Txt.join (Str.ofString "\n") [a, b]) (Str.ofString "\n")
  generalize Txt.split (Txt.join (Str.ofString "\n") [a, b]) (Str.ofString "\n") = l at hj hf hpos
  have na : 10 ∉ a.cps.toList := fun h => ha 10 h rfl
  have nb : 10 ∉ b.cps.toList := fun h => hb 10 h rfl
  have hj' : (Txt.join (Str.ofString "\n") l).cps.toList = a.cps.toList ++ 10 :: b.cps.toList := by
    rw [← join_two, ← hj, ← StrLaws.glued_eq_join]; rfl
  cases l with
  | nil => exact absurd hpos (by decide)
  | cons p r =>
    rw [join_toList] at hj'
    have hX : (r.flatMap fun r => (Str.ofString "\n").cps.toList ++ r.cps.toList) = [] ∨ ∃ Y, (r.flatMap fun r => (Str.ofString "\n").cps.toList ++ r.cps.toList) = 10 :: Y := by
      cases r with
      | nil => exact .inl rfl
      | cons q r => exact .inr ⟨_, by rw [List.flatMap_cons, nl_str]; rfl⟩
    obtain ⟨h1, h2⟩ := first_line (hf p (.head _)) na hX hj'
    cases r with
    | nil => cases h2
    | cons q r =>
      rw [List.flatMap_cons] at h2
      have h3 : q.cps.toList ++ (r.flatMap fun r => (Str.ofString "\n").cps.toList ++ r.cps.toList) = b.cps.toList := by
        have e : (Str.ofString "\n").cps.toList = [10] := by rw [nl_str]
        rw [e] at h2 ⊢
        exact (List.cons.inj h2).2
      cases r with
      | nil =>
        rw [List.flatMap_nil, List.append_nil] at h3
        rw [str_eq h1, str_eq h3]
      | cons z r =>
        exfalso
        apply nb
        rw [← h3, List.flatMap_cons, nl_str]
        simp
end Mine
end

-- part N1
section
open PySem PySem.W PySem.Calls PyProof.Rows PySem.W.X
set_option maxRecDepth 100000
set_option maxHeartbeats 4000000
namespace Mine
section
variable {prog : Program} {w : World} {A : Around} {h₀ : Heap} {L : Addr} {m : Str → Option Value} {env : Env} {elt : PySem.Expr} {x : Str} {scope : Scope} {cl : List (Str × Addr)} {s : Shared} {S : List (Addr × Obj) → Prop} {P : Nat → Value → Prop} {Fin : List Value → List (Addr × Obj) → Prop} {rest : List (Addr × Obj)}
/-- a turn of the law's rows: one row more, the place further -/
def RowsTurn (w : World) (sd rl : Addr) (ol : Obj) (rest : List (Addr × Obj)) (k : Int) (y : Value) (news' : List (Addr × Obj)) : Prop :=
  ∃ o' r t k', y = .str r t ∧ NoNl r ∧ r.length ≤ 8 ∧ k ≤ k' ∧ k' ≤ k + 9 ∧ IsStrip w o' rl k' ∧ news' = (sd, o') :: (rl, ol) :: rest
theorem strs_snoc {y : Str} {t : Tok} {vs : List Value} {rs : List Str} (h : StrsAre vs rs) : StrsAre (vs ++ [.str y t]) (rs ++ [y]) := kct_snoc h
theorem rows_rest {n : Nat} {rl sd : Addr} {ol : Obj} {k₀ : Int}
    (turn : ∀ (k : Int) o I oI C oC D m₂ ys h tk (E' : Value → Shared → Prop), k₀ ≤ k → k ≤ k₀ + 9 * n → IsStrip w o rl k → LCg.NsObj oC m₂ → Fr h₀ L h m → News h₀ L h ((I, oI) :: (C, oC) :: (D, LCg.lst ys) :: (sd, o) :: (rl, ol) :: rest) →
      LCg.Off3 I C D ((sd, o) :: (rl, ol) :: rest) → ((@Ne Nat I C) ∧ (@Ne Nat I D) ∧ (@Ne Nat C D)) →
      wpAny (model prog w) A (eval elt (compEnvC scope cl C env)) (LCg.CompEnd h₀ L m { s with heap := h, toks := tk } I oI C oC D (LCg.lst ys) S (RowsTurn w sd rl ol rest k)) E' { s with heap := h, toks := tk })
    (fin : ∀ ys rs o k, StrsAre ys rs → rs.length = n → (∀ x ∈ rs, NoNl x ∧ x.length ≤ 8) → k₀ ≤ k → k ≤ k₀ + 9 * n → IsStrip w o rl k → Fin ys ((sd, o) :: (rl, ol) :: rest))
    {o : Obj} (ho : IsStrip w o rl k₀) : LCg.CompRest prog w A h₀ L m env elt x scope cl s S P Fin n 0 [] ((sd, o) :: (rl, ol) :: rest) := by
  have key : ∀ (j i : Nat) (ys : List Value) (rs : List Str) (o : Obj) (k : Int), i + j = n → rs.length = i → StrsAre ys rs → (∀ x ∈ rs, NoNl x ∧ x.length ≤ 8) → k₀ ≤ k → k ≤ k₀ + 9 * i → IsStrip w o rl k →
      LCg.CompRest prog w A h₀ L m env elt x scope cl s S P Fin j i ys ((sd, o) :: (rl, ol) :: rest) := by
    intro j
    induction j with
    | zero =>
      intro i ys rs o k hi hl hy hs h0 h1 ho
      have : i = n := by omega
      subst this
      exact LCg.CompRest.zero (fin ys rs o k hy hl hs h0 h1 ho)
    | succ j ih =>
      intro i ys rs o k hi hl hy hs h0 h1 ho
      refine LCg.CompRest.succ ?_
      intro v I oI C oC D m₂ h tk E' hv hC hx F N off ne
      refine wpAny_mono (turn k o I oI C oC D m₂ ys h tk E' h0 (by omega) ho hC F N off ne) (fun y s₂ hq => ?_) fun _ _ e => e
      obtain ⟨h', tk', nw, e, F', N', off', hS, o', r, t, k', rfl, hn, h8, hk0, hk1, ho', rfl⟩ := hq
      refine ⟨h', tk', _, e, F', N', off', hS, ?_⟩
      refine ih (i + 1) _ (rs ++ [r]) o' k' (by omega) (by simp [hl]) (kct_snoc hy) (fun x hx => ?_) (by omega) (by omega) ho'
      rcases List.mem_append.mp hx with hx | hx
      · exact hs x hx
      · rw [List.mem_singleton.mp hx]; exact ⟨hn, h8⟩
  exact key n 0 [] [] o k₀ (by omega) rfl .nil (fun _ h => nomatch h) (Int.le_refl _) (by omega) ho
end
end Mine
end

-- part N2
section
open PySem PySem.W PySem.Calls PyProof.Rows PySem.W.X
set_option maxRecDepth 100000
set_option maxHeartbeats 4000000
namespace Mine
section
variable {w : World} {p : Program} {loose : List Str} {mean : ExcName → Option Value} {mg mb : Str → Option Value}
  {dp un : Nat} {gd : Option (List Code)} {cn : Str} {nm : List (Str × NameKind)} {ig ic : Bool} {mo : List (Str × Const)} {a : Addr} {ccd : Value} {cl : List (Str × Addr)} {outer : List Env} {A₀ : Around} {base h₀ : Heap} {L : Addr} {m : Str → Option Value} {s : Shared} {Q E : Value → Shared → Prop}
  {news rest : List (Addr × Obj)} {g : Obj → List (Addr × Obj)}
theorem row_at {sd rl : Addr} {k : Int} {ns : List Int} {o ol : Obj}
    (B : Below A₀ base outer h₀) (F : Fr h₀ L s.heap m) (X : (hd.heap_39 w.params).In h₀) (N : News h₀ L s.heap news) (T : Top p loose mean mg mb h₀)
    (U : UpdF sd o news g) (hrl : (rl, ol) ∈ news) (ho : IsStrip w o rl k) (hol : IsRow ol ns)
    (hdp : dp + 3 < recursionLimit) (hk0 : 0 ≤ k) (hk1 : k < 900)
    (hret : ∀ (r : Str) (t : Tok) h' tk' o' k', r.length ≤ 8 → NoNl r → k ≤ k' → k' ≤ k + 9 → IsStrip w o' rl k' → Fr h₀ L h' m → News h₀ L h' (g o') → Q (.str r t) { s with heap := h', toks := tk' }) :
    wpAny (model PySem.Challenge.rw_pq0156_01.row.toRowW.prog w) (ktrTop dp un gd cn (fsc nm ig ic mo) L a ccd cl outer) (call (.ref 70) [.ref sd]) Q E s := by
  obtain ⟨pre, post, rfl, hg, h1, h2⟩ := U.split
  have hsd : (sd, o) ∈ pre ++ (sd, o) :: post := List.mem_append_right _ (.head _)
  have hne := ho.ne hol N hsd hrl
  have hrl' : (rl, ol) ∈ pre ++ post := by
    rcases List.mem_append.mp hrl with q | q
    · exact List.mem_append_left _ q
    · rcases List.mem_cons.mp q with q | q
      · cases q; exact absurd rfl hne
      · exact List.mem_append_right _ q
  refine row_spec (rest := pre ++ post) B F X (fun p hp => N p ?_) T (fun p hp => ?_) ho hol hdp hk0 hk1 fun r t h' tk' o' k' a1 a2 a3 a4 a5 a6 a7 => hret r t h' tk' o' k' a1 a2 a3 a4 a5 a6 (hg o' ▸ fun p hp => a7 p ?_)
  · rcases List.mem_cons.mp hp with rfl | hp
    · exact hsd
    · rcases List.mem_cons.mp hp with rfl | hp
      · exact hrl
      · rcases List.mem_append.mp hp with hp | hp
        · exact List.mem_append_left _ hp
        · exact List.mem_append_right _ (.tail _ hp)
  · rcases List.mem_cons.mp hp with rfl | hp
    · exact hne
    · rcases List.mem_append.mp hp with hp | hp
      · exact h1 p hp
      · exact h2 p hp
  · rcases List.mem_append.mp hp with hp | hp
    · exact .tail _ (.tail _ (List.mem_append_left _ hp))
    · rcases List.mem_cons.mp hp with rfl | hp
      · exact .head _
      · exact .tail _ (.tail _ (List.mem_append_right _ hp))
end
end Mine
end

-- part LB
section
open PySem PySem.W PySem.Calls PyProof.Rows PySem.W.X LCg
set_option maxRecDepth 100000
set_option maxHeartbeats 4000000
namespace Mine
section
variable {prog : Program} {w : World} {A : Around} {E : Value → Shared → Prop} {s : Shared} {env : Env} {h₀ : Heap} {L : Addr} {Q : Flow → Shared → Prop}
/-- a statement is walked, its end said; then the rest -/
theorem cut_seq {st : Stmt} {rest : List Stmt} (J : (Str → Option Value) → List (Addr × Obj) → Prop)
    (h1 : wpAny (model prog w) A (exec st env) (fun f s₂ => f = .next ∧ ExitN h₀ L s J s₂) E s)
    (h2 : ∀ h tk m nw, Fr h₀ L h m → News h₀ L h nw → J m nw → wpAny (model prog w) A (execs rest env) Q E { s with heap := h, toks := tk }) :
    wpAny (model prog w) A (execs (st :: rest) env) Q E s := by
  refine wpAny_execs_cons (wpAny_mono h1 (fun f s₂ h => ?_) fun _ _ e => e)
  obtain ⟨rfl, h', tk', m', nw, rfl, F, N, hJ⟩ := h
  exact h2 h' tk' m' nw F N hJ
end
def bodyOf : Stmt → List Stmt
  | .FunctionDef _ _ b _ _ _ _ _ _ _ => b
  | _ => []
def scopeOf : Stmt → Scope
  | .FunctionDef _ _ _ _ _ _ sc _ _ _ => sc
  | _ => { kind := .module, names := [], isGenerator := false, isCoroutine := false }
/-- the law's def, as the program has it -/
def lawDef : Stmt := PySem.Challenge.pw_pq0156_01.main.body.getLast (by decide)
/-- the law's statements -/
def lawNth (i : Nat) : Stmt := (bodyOf lawDef).getD i (.Pass default)

/-- the law's frame -/
def lawE (L fa : Addr) : Env := envOfC (Str.ofString "law") (scopeOf lawDef) L fa (.ref 93)


theorem up_ne {x y : Nat} (n : Nat) (h : x = y + (n + 1)) : @Ne Nat x y := by omega
theorem up_lt {L : Nat} (l0 : 91 < L) : 91 < L + 1 ∧ 91 < L + 1 + 1 ∧ 91 < L + 1 + 1 + 1 ∧ 91 < L + 1 + 1 + 1 + 1 ∧ 91 < L + 1 + 1 + 1 + 1 + 1 ∧ 91 < L + 1 + 1 + 1 + 1 + 1 + 1 := by omega
/-- places that are told apart -/
def Off (a : Nat) : List (Addr × Obj) → Prop
  | [] => True
  | p :: r => @Ne Nat p.1 a ∧ Off a r
def Apart : List (Addr × Obj) → Prop
  | [] => True
  | p :: r => Off p.1 r ∧ Apart r
theorem off_all {a : Addr} {l : List (Addr × Obj)} (h : Off a l) : ∀ p ∈ l, p.1 ≠ a := by
  induction l with
  | nil => intro p hp; cases hp
  | cons q r ih =>
    intro p hp
    rcases List.mem_cons.mp hp with e | hp
    · rw [e]; exact h.1
    · exact ih h.2 p hp
theorem off_of {a : Addr} {l : List (Addr × Obj)} (h : ∀ p ∈ l, p.1 ≠ a) : Off a l := by
  induction l with
  | nil => trivial
  | cons q r ih => exact ⟨h q (.head _), ih fun p hp => h p (.tail _ hp)⟩
end Mine
end

-- part LL
section
open PySem PySem.W PySem.Calls PyProof.Rows PySem.W.X LCg
set_option maxRecDepth 100000
set_option maxHeartbeats 4000000
namespace Mine
/-- the law's code table: the lambda's code is not yet in it, or it is -/
def LamTab (P : Addr) (pre : Array Value) (pos : Pos) (qual : Str) (base news : List (Addr × Obj)) : Prop :=
  news = (P, tabObj pre) :: base ∨ ∃ c oc vs t, news = (P, tabObj (pre ++ #[rawInt pos.line, rawInt pos.col, .ref c])) :: (c, oc) :: base ∧ oc.data = .fields vs ∧ vs[1]? = some (.str qual t) ∧ Off c base
theorem LamTab.mem {P : Addr} {pre : Array Value} {pos : Pos} {qual : Str} {base news : List (Addr × Obj)} (h : LamTab P pre pos qual base news) {q : Addr × Obj} (hq : q ∈ base) : q ∈ news := by
  rcases h with rfl | ⟨c, oc, vs, t, rfl, _⟩
  · exact .tail _ hq
  · exact .tail _ (.tail _ hq)
section
variable {M : Model} {A : Around} {E : Value → Shared → Prop} {s : Shared} {h₀ : Heap} {L a c P : Addr} {m mg mb : Str → Option Value} {cn : Str} {cs : Scope} {ccd : Value} {cl : List (Str × Addr)} {news base : List (Addr × Obj)}
  {p : Program} {loose : List Str} {mean : ExcName → Option Value} {qual : Str} {params : Arguments} {body : PySem.Expr} {scope : Scope} {pre : Array Value} {pos : Pos} {clos : List (Str × Addr)}
theorem lam_any {Q : Value → Shared → Prop} (F : Fr h₀ L s.heap m) (N : News h₀ L s.heap news) (T : Top p loose mean mg mb h₀) (C : CodeHd h₀ c P) (hcd : ccd = .ref c) (hT : LamTab P pre pos qual base news) (hq : (envX cn cs L a ccd cl).qual ++ "<lambda>" = qual) (hoff : ∀ p ∈ base, p.1 ≠ P)
    (ht : TriplesOk pre.toList) (hnf : codeAmong pos pre.toList = none) (hd0 : defaultsOf params (envX cn cs L a ccd cl) = ([], [])) (hcl : closureFor scope (envX cn cs L a ccd cl) = pure clos)
    (h : ∀ f c' oc vs t ctv h' tk, Fr h₀ L h' m →
      News h₀ L h' ((f, kla_obj "<lambda>" qual params body scope clos ((mg "__name__").getD .none) c' ctv) :: (P, tabObj (pre ++ #[rawInt pos.line, rawInt pos.col, .ref c'])) :: (c', oc) :: base) →
      oc.data = .fields vs → vs[1]? = some (.str qual t) → Off c' base → Off f base → @Ne Nat P f → @Ne Nat c' f → Q (.ref f) { s with heap := h', toks := tk }) :
    wpAny M A (eval (.Lambda params body scope pos) (envX cn cs L a ccd cl)) Q E s := by
  subst hq
  refine kla_eval hd0 ?_
  rcases hT with rfl | ⟨c', oc, vs, t, rfl, hd, hv, hO⟩
  · refine kla_nest F N T C hcd (.head hoff) ht hnf hcl fun f c' oc vs t ctv h' tk F' N' hd hv l1 l2 => ?_
    refine h f c' oc vs t ctv h' tk F' (fun q hq => N' q ?_) hd hv (off_of fun q hq => Nat.ne_of_lt (l1 q (.tail _ hq))) (off_of fun q hq => Nat.ne_of_lt (Nat.lt_trans (l1 q (.tail _ hq)) l2)) (Nat.ne_of_lt (Nat.lt_trans (l1 _ (.head _)) l2)) (Nat.ne_of_lt l2)
    rcases List.mem_cons.mp hq with e | hq
    · rw [e]; exact .head _
    · rcases List.mem_cons.mp hq with e | hq
      · rw [e]; exact .tail _ (.tail _ (.head _))
      · rcases List.mem_cons.mp hq with e | hq
        · rw [e]; exact .tail _ (.head _)
        · exact .tail _ (.tail _ (.tail _ hq))
  · have hts : TriplesOk (pre ++ #[rawInt pos.line, rawInt pos.col, .ref c']).toList := by
      rw [Array.toList_append]
      revert ht
      generalize pre.toList = l
      intro ht
      fun_induction TriplesOk l with
      | case1 => simp [TriplesOk, rawInt]
      | case2 _ _ _ _ _ r ih => simpa [TriplesOk] using ih ht
      | case3 _ _ _ => exact ht.elim
    have hf : codeAmong pos (pre ++ #[rawInt pos.line, rawInt pos.col, .ref c']).toList = some (.ref c') := by
      rw [Array.toList_append]; exact codeAmong_snoc _ ht hnf
    refine kla_hit (c' := c') F N T C hcd (.head _) hts hf hcl fun f ctv h' tk F' N' l1 => ?_
    exact h f c' oc vs t ctv h' tk F' N' hd hv hO (off_of fun q hq => Nat.ne_of_lt (l1 q (.tail _ (.tail _ hq)))) (Nat.ne_of_lt (l1 _ (.head _))) (Nat.ne_of_lt (l1 _ (.tail _ (.head _))))
theorem LamTab.upd {qual : Str} {d : Addr} {o : Obj} {g : Obj → List (Addr × Obj)} {pre0 : Array Value} (hP : P ≠ d) (U : UpdF d o base g) (hT : LamTab P pre0 pos qual base news) :
    ∃ g', UpdF d o news g' ∧ ∀ o', LamTab P pre0 pos qual (g o') (g' o') := by
  rcases hT with rfl | ⟨c, oc, vs, t, rfl, hd, hv, hO⟩
  · exact ⟨_, .tail hP U, fun _ => .inl rfl⟩
  · obtain ⟨l1, l2, e1, e2, h1, h2⟩ := U.split
    have hO' := off_all hO
    have hc : c ≠ d := fun q => hO' (d, o) (by rw [e1]; exact List.mem_append_right _ (.head _)) q.symm
    refine ⟨_, .tail hP (.tail hc U), fun o' => .inr ⟨c, oc, vs, t, rfl, hd, hv, off_of fun p hp => ?_⟩⟩
    rw [e2] at hp
    rcases List.mem_append.mp hp with q | q
    · exact hO' p (by rw [e1]; exact List.mem_append_left _ q)
    · rcases List.mem_cons.mp q with q | q
      · rw [q]; exact Ne.symm hc
      · exact hO' p (by rw [e1]; exact List.mem_append_right _ (.tail _ q))
end
theorem LamTab.cons {P : Addr} {pre : Array Value} {pos : Pos} {qual : Str} {base news : List (Addr × Obj)} (h : LamTab P pre pos qual base news) {q : Addr × Obj} (hq : ∀ p ∈ news, p.1 ≠ q.1) :
    ∃ nw, LamTab P pre pos qual (q :: base) nw ∧ ∀ x ∈ nw, x ∈ q :: news := by
  rcases h with rfl | ⟨c, oc, vs, t, rfl, hd, hv, hO⟩
  · refine ⟨_, .inl rfl, fun x hx => ?_⟩
    rcases List.mem_cons.mp hx with e | hx
    · rw [e]; exact .tail _ (.head _)
    · rcases List.mem_cons.mp hx with e | hx
      · rw [e]; exact .head _
      · exact .tail _ (.tail _ hx)
  · refine ⟨_, .inr ⟨c, oc, vs, t, rfl, hd, hv, Ne.symm (hq (c, oc) (.tail _ (.head _))), hO⟩, fun x hx => ?_⟩
    rcases List.mem_cons.mp hx with e | hx
    · rw [e]; exact .tail _ (.head _)
    · rcases List.mem_cons.mp hx with e | hx
      · rw [e]; exact .tail _ (.tail _ (.head _))
      · rcases List.mem_cons.mp hx with e | hx
        · rw [e]; exact .head _
        · exact .tail _ (.tail _ (.tail _ hx))
section
variable {prog : Program} {w : World} {A : Around} {E : Value → Shared → Prop} {s : Shared} {h₀ : Heap} {L a c P d : Addr} {m : Str → Option Value} {cn x : Str} {cs : Scope} {ccd v : Value} {v₀ : Option Value} {cl : List (Str × Addr)} {news base : List (Addr × Obj)} {qual : Str} {pre : Array Value} {pos : Pos}
theorem store_lam {Q : Unit → Shared → Prop} {o : Obj} {g : Obj → List (Addr × Obj)} (F : Fr h₀ L s.heap m) (N : News h₀ L s.heap news) (hT : LamTab P pre pos qual base news) (hc : cl.lookup x = some d) (hP : P ≠ d) (U : UpdF d o base g) (hd : o.data = .cell v₀)
    (h : ∀ h' o' nw, Fr h₀ L h' m → News h₀ L h' nw → LamTab P pre pos qual (g o') nw → o'.data = .cell (some v) → Q () { s with heap := h' })
    (hk : cs.kind = .function := by rfl) (hx : (envX cn cs L a ccd cl).kindOf x = some .cell := by rfl) : wpAny (model prog w) A (storeName (envX cn cs L a ccd cl) x v) Q E s := by
  obtain ⟨g', U', hT'⟩ := hT.upd hP U
  exact storeX_C F N hc U' hd (fun h' o' F' N' hd' => h h' o' _ F' N' (hT' o') hd') hk hx
end
section
variable {w : World} {p : Program} {loose : List Str} {mean : ExcName → Option Value} {mg mb : Str → Option Value}
  {dp un : Nat} {gd : Option (List Code)} {cn : Str} {nm : List (Str × NameKind)} {ig ic : Bool} {mo : List (Str × Const)} {a : Addr} {ccd : Value} {cl : List (Str × Addr)} {A₀ : Around} {base h₀ : Heap} {L : Addr} {m : Str → Option Value} {s : Shared} {Q E : Value → Shared → Prop}
  {news rest : List (Addr × Obj)}
/-- _law_heard of a task that reads a row -/
theorem heard_num {r : Str} {task : Addr} {fto : Value} {ftd : Option Addr} {fts : Array (Option Value)} {fd : FuncData}
    (B : Below A₀ base [] h₀) (F : Fr h₀ L s.heap m) (X : (hd.heap_39 w.params).In h₀) (N : News h₀ L s.heap news) (T : Top p loose mean mg mb h₀)
    (XB : (hd.heap_39 w.params).In base) (TB : Top p loose mean mg mb base) (hdp : dp + 1 < recursionLimit) (hft : (task, (⟨fto, ftd, .func fd, fts⟩ : Obj)) ∈ news)
    (hcall : ∀ (g' h' : Heap) (L' : Addr) (m' : Str → Option Value) (tk' : Nat) (nmH : List (Str × NameKind)) (moH : List (Str × Const)) (Q' E' : Value → Shared → Prop),
      Below (ktrTop dp un gd cn (fsc nm ig ic mo) L a ccd cl []) base [envX cn (fsc nm ig ic mo) L a ccd cl] g' → Fr g' L' h' m' → (hd.heap_39 w.params).In g' → News g' L' h' news → Top p loose mean mg mb g' → (∀ p ∈ news, p.1 < L') →
      (numR r = .none → ∀ a t h'' tk'', Fr g' L' h'' m' → News g' L' h'' ((a, tup [.none, .str r t]) :: news) → Q' (.ref a) { s with heap := h'', toks := tk'' }) →
      (∀ v r', numR r = .ok v r' → ∀ a t t' h'' tk'', Fr g' L' h'' m' → News g' L' h'' ((a, tup [.int v t, .str r' t']) :: news) → Q' (.ref a) { s with heap := h'', toks := tk'' }) →
      (∀ e D oD G h'' tk'', numR r = .bad → Fr g' L' G m' → Flown base G [envX (Str.ofString "_law_heard") (fsc nmH false false moH) L' 82 (.ref 81) [], envX cn (fsc nm ig ic mo) L a ccd cl] e D ((D, oD) :: news) h'' → TellsSN oD → E' (.ref e) { s with heap := h'', toks := tk'' }) →
      wpAny (model PySem.Challenge.rw_pq0156_01.row.toRowW.prog w) (ktrTop (dp + 1) (un + 3) gd (Str.ofString "_law_heard") (fsc nmH false false moH) L' 82 (.ref 81) [] [envX cn (fsc nm ig ic mo) L a ccd cl]) (call (.ref task) []) Q' E' { s with heap := h', toks := tk' })
    (hnone : numR r = .none → ∀ a t h' tk', Fr h₀ L h' m → News h₀ L h' ((a, tup [.none, .str r t]) :: news) → Q (.ref a) { s with heap := h', toks := tk' })
    (hok : ∀ v r', numR r = .ok v r' → ∀ a t t' h' tk', Fr h₀ L h' m → News h₀ L h' ((a, tup [.int v t, .str r' t']) :: news) → Q (.ref a) { s with heap := h', toks := tk' })
    (hbad : numR r = .bad → ∀ t h' tk', Fr h₀ L h' m → News h₀ L h' news → Q (.str (Str.ofString "SN") t) { s with heap := h', toks := tk' }) :
    wpAny (model PySem.Challenge.rw_pq0156_01.row.toRowW.prog w) (ktrTop dp un gd cn (fsc nm ig ic mo) L a ccd cl []) (call (.ref 82) [.ref task]) Q E s := by
  refine heard_spec (bad := numR r = .bad) (Rel := fun v nw => (numR r = .none ∧ ∃ a t, v = .ref a ∧ nw = (a, tup [.none, .str r t]) :: news) ∨ ∃ q r', numR r = .ok q r' ∧ ∃ a t t', v = .ref a ∧ nw = (a, tup [.int q t, .str r' t']) :: news)
    B F X N T XB TB hdp hft (fun g' h' L' m' tk' nmH moH Q' E' b1 b2 b3 b4 b5 b6 hq he => ?_) (fun v h' tk' nw hR F' N' => ?_) hbad
  · exact hcall g' h' L' m' tk' nmH moH Q' E' b1 b2 b3 b4 b5 b6 (fun hn a t h2 tk2 F2 N2 => hq _ _ _ _ (.inl ⟨hn, a, t, rfl, rfl⟩) F2 N2) (fun v r' hn a t t' h2 tk2 F2 N2 => hq _ _ _ _ (.inr ⟨v, r', hn, a, t, t', rfl, rfl⟩) F2 N2) he
  · rcases hR with ⟨hn, a, t, rfl, rfl⟩ | ⟨v, r', hn, a, t, t', rfl, rfl⟩
    · exact hnone hn a t h' tk' F' N'
    · exact hok v r' hn a t t' h' tk' F' N'
end
end Mine
end

-- part LC
section
open PySem PySem.W PySem.Calls PyProof.Rows PySem.W.X LCg
set_option maxRecDepth 100000
set_option maxHeartbeats 4000000
namespace Mine
section
variable {prog : Program} {w : World} {A : Around} {E : Value → Shared → Prop} {s : Shared} {h₀ : Heap} {L a b : Addr} {news : List (Addr × Obj)} {Q : Value → Shared → Prop}
theorem eqAt_none {A : Around} {s : Shared} : SeqAt.EqAt A s .none .none true := SeqAt.EqAt.same _
theorem eqAt_str {A : Around} {s : Shared} (x : Str) (t u : Tok) : SeqAt.EqAt A s (.str x t) (.str x u) true := by
  have := SeqAt.EqAt.str_str (A := A) (s := s) x t x u
  rwa [beq_self_eq_true] at this
theorem eqAt_int {A : Around} {s : Shared} (x : Int) (t u : Tok) : SeqAt.EqAt A s (.int x t) (.int x u) true := by
  have := SeqAt.EqAt.int_int (A := A) (s := s) x t x u
  rwa [beq_self_eq_true] at this
/-- two pairs that tell the same -/
theorem ne_pairs {x y x' y' : Value} (N : News h₀ L s.heap news) (ha : (a, tup [x, y]) ∈ news) (hb : (b, tup [x', y']) ∈ news) (hu : A.units < cLine) (e1 : SeqAt.EqAt A.in1 s x x' true) (e2 : SeqAt.EqAt A.in1 s y y' true)
    (h : Q (.bool false) s) : wpAny (model prog w) A (compareOp .NotEq (.ref a) (.ref b)) Q E s := by
  have hl : s.heap.IsTuple a [x, y].toArray := ⟨_, N.get ha, rfl, _, rfl⟩
  have hr : s.heap.IsTuple b [x', y'].toArray := ⟨_, N.get hb, rfl, _, rfl⟩
  refine SeqAt.RcNeAt.tuples (e := fun _ => true) hl hr hu (fun j h1 h2 => ?_) prog w E Q ?_
  · match j, h1, h2 with
    | 0, _, _ => exact e1
    | 1, _, _ => exact e2
  · exact h
theorem ne_same_str {x : Str} {t u : Tok} (h : Q (.bool false) s) : wpAny (model prog w) A (compareOp .NotEq (.str x t) (.str x u)) Q E s := by
  refine SeqAt.RcNeAt.str_str x t x u prog w E Q ?_
  rw [beq_self_eq_true]; exact h
theorem eq_pair_str {x y : Value} {z : Str} {t : Tok} (N : News h₀ L s.heap news) (ha : (a, tup [x, y]) ∈ news) (hu : A.units < cLine) (h : Q (.bool false) s) : wpAny (model prog w) A (compareOp .Eq (.ref a) (.str z t)) Q E s :=
  SeqAt.RcAt.tuple_str (items := [x, y].toArray) z t ⟨_, N.get ha, rfl, _, rfl⟩ hu prog w E Q h
theorem dict_ne_declines_str (d : Addr) (o : Obj) (hc : o.cls = .type "dict") (b : Str) (u : Tok) :
    Meets (Builtin.«dict.__ne__» ⟨[.ref d, .str b u], []⟩) (fun _ R s => s.heap.get? d = some o ∧ R (.ok (.ret .notImplemented)) s) :=
  .of_wp fun prog w A R s h => by
    obtain ⟨hp, g, dr, tk, os⟩ := s; obtain ⟨hl, h⟩ := h
    have f1 := F.sub_str_dict
    wp_walk using AutoSeq1.wpAny_loadPart' hl
    exact ⟨_, rfl, h⟩
theorem str_ne_declines_dict (b : Str) (u : Tok) (d : Addr) (o : Obj) (es : Array DictEntry) (ep : Nat) (hd : o.data = .dict es ep) :
    Meets (Builtin.«str.__ne__» ⟨[.str b u, .ref d], []⟩) (fun _ R s => s.heap.get? d = some o ∧ R (.ok (.ret .notImplemented)) s) :=
  .of_wp fun prog w A R s h => by
    obtain ⟨hp, g, dr, tk, os⟩ := s; obtain ⟨hl, h⟩ := h
    wp_walk using AutoSeq1.wpAny_loadPart' hl, wpAny_load hl
    rw [hd]
    wp_walk
    exact ⟨_, rfl, h⟩
theorem ne_dict_str {K : Type} [DecidableEq K] {knd : KeyKind prog w K} {kvs : List (K × Value)} {d : Addr} {o : Obj} {x : Str} {t : Tok} (N : News h₀ L s.heap news) (hm : (d, o) ∈ news) (ho : o.IsDictOf knd kvs) (hu : A.units < cLine)
    (h : Q (.bool true) s) : wpAny (model prog w) A (compareOp .NotEq (.ref d) (.str x t)) Q E s := by
  obtain ⟨es, ep, hx, hdt, _⟩ := ho
  exact SeqAt.rc_ne_decline_or (k := false) ⟨o, N.get hm, hx.1⟩ (typeIs_str s x t) (by decide) PySem.F.sub_str_dict PySem.F.slot_dict_ne PySem.F.slot_str_ne_refl
    (fun _ hq => call_meets PySem.F.slot_dict_ne ⟨o, N.get hm, hx.1⟩ PySem.F.entry_dict_ne (PySem.F.args_dict_ne_2 _ _) (dict_ne_declines_str d o hx.1 x t) ⟨N.get hm, hq⟩)
    (fun _ hq => call_meets PySem.F.slot_str_ne_refl (typeIs_str s x t) PySem.F.entry_str_ne (PySem.F.args_str_ne_2 _ _) (str_ne_declines_dict x t d o es ep hdt) ⟨N.get hm, hq⟩)
    (fun _ hq => wpAny_of_eq (rfl : isSame (.ref d) (.str x t) = pure false) hq) (.inr hu) h
end
/-- what is due so far -/
def DueIs (w : World) (rs : List Str) (dd : Addr) (od : Obj) (i : Nat) (m : Str → Option Value) : Prop :=
  (∃ kvs d, m (Str.ofString "due") = some (.ref dd) ∧ od.IsDictOf (intKind PySem.Challenge.rw_pq0156_01.row.toRowW.prog w) kvs ∧ KV kvs d ∧ d.length ≤ i ∧ loadAll (rs.take i) = some d) ∨
    (∃ t, m (Str.ofString "due") = some (.str (Str.ofString "SN") t) ∧ loadAll (rs.take i) = none)
/-- where the lambda of a law's statement stands -/
def lamPos : PySem.Stmt → Pos
  | .For _ _ (.If (.Compare (.Call _ (.Lambda _ _ _ p :: _) _ _) _ _ _) _ _ _ :: _) _ _ => p
  | .If (.Compare (.Call _ (.Lambda _ _ _ p :: _) _ _) _ _ _) _ _ _ => p
  | _ => default
def lamQ : Str := (lawE 0 0).qual ++ "<lambda>"
theorem load_stay {rs : List Str} {i : Nat} (h : loadAll (rs.take i) = none) : loadAll (rs.take (i + 1)) = none := by
  rw [List.take_add_one]
  exact foldlM_none h
theorem mem_rot {α : Type} {x y z q : α} {l : List α} (h : q ∈ x :: y :: z :: l) : q ∈ y :: z :: x :: l := by
  rcases List.mem_cons.mp h with e | h
  · rw [e]; exact .tail _ (.tail _ (.head _))
  · rcases List.mem_cons.mp h with e | h
    · rw [e]; exact .head _
    · rcases List.mem_cons.mp h with e | h
      · rw [e]; exact .tail _ (.head _)
      · exact .tail _ (.tail _ (.tail _ h))
theorem news_rot {h₀ h : Heap} {L : Addr} {x a b c : Addr × Obj} {l : List (Addr × Obj)} (N : News h₀ L h (x :: a :: b :: c :: l)) : News h₀ L h (x :: c :: a :: b :: l) := fun p hp => N p (by
  rcases List.mem_cons.mp hp with e | hp
  · rw [e]; exact .head _
  · exact .tail _ (mem_rot hp))
section
variable {w : World} {p : Program} {loose : List Str} {mean : ExcName → Option Value} {mg mb : Str → Option Value}
  {dp un : Nat} {gd : Option (List Code)} {cn : Str} {nm : List (Str × NameKind)} {ig ic : Bool} {mo : List (Str × Const)} {a : Addr} {ccd : Value} {cl : List (Str × Addr)} {outer : List Env} {A₀ : Around} {base h₀ : Heap} {L : Addr} {m : Str → Option Value} {s : Shared} {Q E : Value → Shared → Prop}
  {news rest : List (Addr × Obj)}
theorem read_none {row : Str} {tr : Tok} (hn : numR row = .none)
    (B : Below A₀ base outer h₀) (F : Fr h₀ L s.heap m) (X : (hd.heap_39 w.params).In h₀) (N : News h₀ L s.heap news) (T : Top p loose mean mg mb h₀)
    (hdp : dp + 60 < recursionLimit) (hun : un + 300 < cLine) (hlen : row.length ≤ 8)
    (h : ∀ a t h' tk', Fr h₀ L h' m → News h₀ L h' ((a, tup [.none, .str row t]) :: news) → Q (.ref a) { s with heap := h', toks := tk' }) :
    wpAny (model PySem.Challenge.rw_pq0156_01.row.toRowW.prog w) (ktrTop dp un gd cn (fsc nm ig ic mo) L a ccd cl outer) (call (.ref 75) [.str row tr]) Q E s :=
  read_spec B F X N T hdp hun hlen (fun _ => h) (fun v r e => by rw [hn] at e; cases e) (fun e => by rw [hn] at e; cases e)
theorem read_ok {row r : Str} {v : Int} {tr : Tok} (hn : numR row = .ok v r)
    (B : Below A₀ base outer h₀) (F : Fr h₀ L s.heap m) (X : (hd.heap_39 w.params).In h₀) (N : News h₀ L s.heap news) (T : Top p loose mean mg mb h₀)
    (hdp : dp + 60 < recursionLimit) (hun : un + 300 < cLine) (hlen : row.length ≤ 8)
    (h : ∀ a t t' h' tk', Fr h₀ L h' m → News h₀ L h' ((a, tup [.int v t, .str r t']) :: news) → Q (.ref a) { s with heap := h', toks := tk' }) :
    wpAny (model PySem.Challenge.rw_pq0156_01.row.toRowW.prog w) (ktrTop dp un gd cn (fsc nm ig ic mo) L a ccd cl outer) (call (.ref 75) [.str row tr]) Q E s :=
  read_spec B F X N T hdp hun hlen (fun e => by rw [hn] at e; cases e) (fun v r e => by rw [hn] at e; cases e; exact h) (fun e => by rw [hn] at e; cases e)
theorem read_bad {row : Str} {tr : Tok} (hn : numR row = .bad)
    (B : Below A₀ base outer h₀) (F : Fr h₀ L s.heap m) (X : (hd.heap_39 w.params).In h₀) (N : News h₀ L s.heap news) (T : Top p loose mean mg mb h₀)
    (hdp : dp + 60 < recursionLimit) (hun : un + 300 < cLine) (hlen : row.length ≤ 8)
    (h : ∀ t h' tk', Fr h₀ L h' m → News h₀ L h' news → Q (.str (Str.ofString "SN") t) { s with heap := h', toks := tk' }) :
    wpAny (model PySem.Challenge.rw_pq0156_01.row.toRowW.prog w) (ktrTop dp un gd cn (fsc nm ig ic mo) L a ccd cl outer) (call (.ref 75) [.str row tr]) Q E s :=
  read_spec B F X N T hdp hun hlen (fun e => by rw [hn] at e; cases e) (fun v r e => by rw [hn] at e; cases e) (fun _ => h)
end
section
variable {prog : Program} {w : World} {A : Around} {E : Value → Shared → Prop} {s : Shared} {h₀ : Heap} {L a b : Addr} {news : List (Addr × Obj)} {Q : Value → Shared → Prop} {oa ob : Obj} {ka kb : List (Int × Value)} {da db : List (Int × Str)}
/-- two dicts of the ledger that tell the same -/
theorem ne_dicts (N : News h₀ L s.heap news) (pa : (a, oa) ∈ news) (pb : (b, ob) ∈ news) (ha : oa.IsDictOf (intKind prog w) ka) (hb : ob.IsDictOf (intKind prog w) kb) (la : (a == sysModules) = false) (lb : (b == sysModules) = false)
    (va : KV ka da) (vb : KV kb db) (hu : A.units < cLine) (hl : ∀ k, look da k = look db k) (h : Q (.bool false) s) : wpAny (model prog w) A (compareOp .NotEq (.ref a) (.ref b)) Q E s := by
  obtain ⟨e1, e2⟩ := same_hits (A := A.in1) (s := s) va vb (nk_of ha va) (nk_of hb vb) hl
  exact kne_pairs N pa pb ha hb la lb e1 hu e2 h
end
end Mine
end

-- part N3
section
open PySem PySem.W PySem.Calls PyProof.Rows PySem.W.X
set_option maxRecDepth 100000
set_option maxHeartbeats 4000000
namespace Mine
theorem updF_append {d : Addr} {o : Obj} {base : List (Addr × Obj)} (hb : ∀ p ∈ base, p.1 ≠ d) : ∀ {ds : List (Addr × Obj)}, (∀ p ∈ ds, p.1 ≠ d) → UpdF d o (ds ++ (d, o) :: base) (fun o' => ds ++ (d, o') :: base)
  | [], _ => .head hb
  | _ :: _, h => .tail (h _ (.head _)) (updF_append hb fun p hp => h p (.tail _ hp))
theorem mem_rot4 {α : Type} {x y z d q : α} {l : List α} (h : q ∈ x :: y :: z :: d :: l) : q ∈ d :: x :: y :: z :: l := by
  rcases List.mem_cons.mp h with e | h
  · rw [e]; exact .tail _ (.head _)
  · rcases List.mem_cons.mp h with e | h
    · rw [e]; exact .tail _ (.tail _ (.head _))
    · rcases List.mem_cons.mp h with e | h
      · rw [e]; exact .tail _ (.tail _ (.tail _ (.head _)))
      · rcases List.mem_cons.mp h with e | h
        · rw [e]; exact .head _
        · exact .tail _ (.tail _ (.tail _ (.tail _ h)))
/-- a dict of texts under ints, made by the law -/
def ProgIs (w : World) (d : Addr) (od : Obj) : Prop :=
  ∃ kvs dl, od.IsDictOf (intKind PySem.Challenge.rw_pq0156_01.row.toRowW.prog w) kvs ∧ KV kvs dl ∧ (∀ kv ∈ dl, kv.1 ∈ KS) ∧ kvs.length ≤ 4 ∧ (d == sysModules) = false
section
variable {prog : Program} {w : World} {A : Around} {h₀ : Heap} {L : Addr} {m : Str → Option Value} {env : Env} {elt : PySem.Expr} {x : Str} {scope : Scope} {cl : List (Str × Addr)} {s : Shared} {S : List (Addr × Obj) → Prop} {P : Nat → Value → Prop} {Fin : List Value → List (Addr × Obj) → Prop} {base : List (Addr × Obj)}
def ProgTurn (w : World) (sd rl : Addr) (base ds : List (Addr × Obj)) (k : Int) (y : Value) (news' : List (Addr × Obj)) : Prop :=
  ∃ o' d od k', y = .ref d ∧ ProgIs w d od ∧ (∀ p ∈ ds ++ (sd, o') :: base, p.1 ≠ d) ∧ k ≤ k' ∧ k' ≤ k + 20 ∧ IsStrip w o' rl k' ∧ news' = (d, od) :: (ds ++ (sd, o') :: base)
/-- the law's programs so far -/
def ProgsAre (w : World) (sd : Addr) (base : List (Addr × Obj)) : List Value → List (Addr × Obj) → Prop
  | ys, [] => ys = []
  | ys, (d, od) :: ds => ∃ zs, ys = zs ++ [.ref d] ∧ ProgIs w d od ∧ (∀ p ∈ ds, p.1 ≠ d) ∧ sd ≠ d ∧ (∀ p ∈ base, p.1 ≠ d) ∧ ProgsAre w sd base zs ds
theorem ProgsAre.off {sd : Addr} : ∀ {ds : List (Addr × Obj)} {ys : List Value}, ProgsAre w sd base ys ds → ∀ p ∈ ds, p.1 ≠ sd
  | [], _, _ => fun _ h => nomatch h
  | (d, od) :: ds, ys, ⟨zs, _, _, _, h, _, r⟩ => fun p hp => by
    rcases List.mem_cons.mp hp with e | hp
    · rw [e]; exact Ne.symm h
    · exact r.off p hp
theorem progs_three {sd : Addr} {ds : List (Addr × Obj)} {ys : List Value} (h : ProgsAre w sd base ys ds) (hl : ds.length = 3) :
    ∃ (d1 d2 d3 : Addr) (o1 o2 o3 : Obj), ds = [(d3, o3), (d2, o2), (d1, o1)] ∧ ys = [.ref d1, .ref d2, .ref d3] ∧ ProgIs w d1 o1 ∧ ProgIs w d2 o2 ∧ ProgIs w d3 o3 ∧ @Ne Nat d1 d2 ∧ @Ne Nat d1 d3 ∧ @Ne Nat d2 d3 ∧
      @Ne Nat sd d1 ∧ @Ne Nat sd d2 ∧ @Ne Nat sd d3 ∧ (∀ p ∈ base, p.1 ≠ d1) ∧ (∀ p ∈ base, p.1 ≠ d2) ∧ (∀ p ∈ base, p.1 ≠ d3) := by
  cases ds with
  | nil => cases hl
  | cons p3 ds =>
    cases ds with
    | nil => cases hl
    | cons p2 ds =>
      cases ds with
      | nil => cases hl
      | cons p1 ds =>
        cases ds with
        | cons _ _ => simp at hl
        | nil =>
          obtain ⟨d3, o3⟩ := p3
          obtain ⟨d2, o2⟩ := p2
          obtain ⟨d1, o1⟩ := p1
          obtain ⟨z2, e3, q3, n3, s3, b3, z1, e2, q2, n2, s2, b2, z0, e1, q1, n1, s1, b1, e0⟩ := h
          have e0' : z0 = [] := e0
          subst e0'
          subst e1
          subst e2
          subst e3
          exact ⟨d1, d2, d3, o1, o2, o3, rfl, rfl, q1, q2, q3, n2 _ (.head _), n3 _ (.tail _ (.head _)), n3 _ (.head _), s1, s2, s3, b1, b2, b3⟩
theorem progs_rest {n : Nat} {rl sd : Addr} {k₀ : Int}
    (turn : ∀ (k : Int) o I oI C oC D m₂ ys ds h tk (E' : Value → Shared → Prop), k₀ ≤ k → k ≤ k₀ + 20 * n → IsStrip w o rl k → LCg.NsObj oC m₂ → Fr h₀ L h m → News h₀ L h ((I, oI) :: (C, oC) :: (D, LCg.lst ys) :: (ds ++ (sd, o) :: base)) →
      LCg.Off3 I C D (ds ++ (sd, o) :: base) → ((@Ne Nat I C) ∧ (@Ne Nat I D) ∧ (@Ne Nat C D)) → (∀ p ∈ ds, p.1 ≠ sd) →
      wpAny (model prog w) A (eval elt (compEnvC scope cl C env)) (LCg.CompEnd h₀ L m { s with heap := h, toks := tk } I oI C oC D (LCg.lst ys) S (ProgTurn w sd rl base ds k)) E' { s with heap := h, toks := tk })
    (fin : ∀ ys ds o k, ProgsAre w sd base ys ds → ds.length = n → k₀ ≤ k → k ≤ k₀ + 20 * n → IsStrip w o rl k → Fin ys (ds ++ (sd, o) :: base))
    {o : Obj} (ho : IsStrip w o rl k₀) : LCg.CompRest prog w A h₀ L m env elt x scope cl s S P Fin n 0 [] ((sd, o) :: base) := by
  have key : ∀ (j i : Nat) (ys : List Value) (ds : List (Addr × Obj)) (o : Obj) (k : Int), i + j = n → ds.length = i → ProgsAre w sd base ys ds → k₀ ≤ k → k ≤ k₀ + 20 * i → IsStrip w o rl k →
      LCg.CompRest prog w A h₀ L m env elt x scope cl s S P Fin j i ys (ds ++ (sd, o) :: base) := by
    intro j
    induction j with
    | zero =>
      intro i ys ds o k hi hl hy h0 h1 ho
      have : i = n := by omega
      subst this
      exact LCg.CompRest.zero (fin ys ds o k hy hl h0 h1 ho)
    | succ j ih =>
      intro i ys ds o k hi hl hy h0 h1 ho
      refine LCg.CompRest.succ ?_
      intro v I oI C oC D m₂ h tk E' hv hC hx F N off ne
      refine wpAny_mono (turn k o I oI C oC D m₂ ys ds h tk E' h0 (by omega) ho hC F N off ne hy.off) (fun y s₂ hq => ?_) fun _ _ e => e
      obtain ⟨h', tk', nw, e, F', N', off', hS, o', d, od, k', rfl, hd, hne, hk0, hk1, ho', rfl⟩ := hq
      refine ⟨h', tk', _, e, F', N', off', hS, ?_⟩
      refine ih (i + 1) _ ((d, od) :: ds) o' k' (by omega) (by simp [hl]) ⟨ys, rfl, hd, fun p hp => hne p (List.mem_append_left _ hp), hne _ (List.mem_append_right _ (.head _)), fun p hp => hne p (List.mem_append_right _ (.tail _ hp)), hy⟩ (by omega) (by omega) ho'
  exact key n 0 [] [] o k₀ (by omega) rfl rfl (Int.le_refl _) (by omega) ho
end
section
variable {w : World} {p : Program} {loose : List Str} {mean : ExcName → Option Value} {mg mb : Str → Option Value}
  {dp un : Nat} {gd : Option (List Code)} {cn : Str} {nm : List (Str × NameKind)} {ig ic : Bool} {mo : List (Str × Const)} {a : Addr} {ccd : Value} {cl : List (Str × Addr)} {outer : List Env} {A₀ : Around} {base h₀ : Heap} {L : Addr} {m : Str → Option Value} {s : Shared} {Q E : Value → Shared → Prop}
  {news rest : List (Addr × Obj)} {g : Obj → List (Addr × Obj)}
theorem program_at {sd rl : Addr} {k : Int} {ns : List Int} {o ol : Obj}
    (B : Below A₀ base outer h₀) (F : Fr h₀ L s.heap m) (X : (hd.heap_39 w.params).In h₀) (N : News h₀ L s.heap news) (T : Top p loose mean mg mb h₀)
    (U : UpdF sd o news g) (hrl : (rl, ol) ∈ news) (ho : IsStrip w o rl k) (hol : IsRow ol ns)
    (hdp : dp + 20 < recursionLimit) (hk0 : 0 ≤ k) (hk1 : k < 900)
    (hret : ∀ d od h' tk' o' k', ProgIs w d od → (∀ p ∈ news, p.1 ≠ d) → k ≤ k' → k' ≤ k + 20 → IsStrip w o' rl k' → Fr h₀ L h' m → News h₀ L h' ((d, od) :: g o') → Q (.ref d) { s with heap := h', toks := tk' }) :
    wpAny (model PySem.Challenge.rw_pq0156_01.row.toRowW.prog w) (ktrTop dp un gd cn (fsc nm ig ic mo) L a ccd cl outer) (call (.ref 89) [.ref sd]) Q E s := by
  obtain ⟨pre, post, rfl, hg, h1, h2⟩ := U.split
  have hsd : (sd, o) ∈ pre ++ (sd, o) :: post := List.mem_append_right _ (.head _)
  have hne := ho.ne hol N hsd hrl
  have hrl' : (rl, ol) ∈ pre ++ post := by
    rcases List.mem_append.mp hrl with q | q
    · exact List.mem_append_left _ q
    · rcases List.mem_cons.mp q with q | q
      · cases q; exact absurd rfl hne
      · exact List.mem_append_right _ q
  refine program_spec (rest := pre ++ post) B F X (fun p hp => N p ?_) T (fun p hp => ?_) ho hol hdp hk0 hk1 fun d od kvs dl o' k' h' tk' a1 a2 aK a3 a4 a5 a6 a7 a8 a9 a10 => hret d od h' tk' o' k' ⟨kvs, dl, a1, a2, aK, a3, a7⟩ (fun p hp => a8 p ?_) a4 a5 a6 a9 (hg o' ▸ fun p hp => a10 p ?_)
  · rcases List.mem_cons.mp hp with rfl | hp
    · exact hsd
    · rcases List.mem_cons.mp hp with rfl | hp
      · exact hrl
      · rcases List.mem_append.mp hp with hp | hp
        · exact List.mem_append_left _ hp
        · exact List.mem_append_right _ (.tail _ hp)
  · rcases List.mem_cons.mp hp with rfl | hp
    · exact hne
    · rcases List.mem_append.mp hp with hp | hp
      · exact h1 p hp
      · exact h2 p hp
  · rcases List.mem_append.mp hp with hp | hp
    · exact .tail _ (.tail _ (List.mem_append_left _ hp))
    · rcases List.mem_cons.mp hp with rfl | hp
      · exact .head _
      · exact .tail _ (.tail _ (List.mem_append_right _ hp))
  · rcases List.mem_cons.mp hp with e | hp
    · rw [e]; exact .head _
    · rcases List.mem_append.mp hp with hp | hp
      · exact .tail _ (.tail _ (.tail _ (List.mem_append_left _ hp)))
      · rcases List.mem_cons.mp hp with rfl | hp
        · exact .tail _ (.head _)
        · exact .tail _ (.tail _ (.tail _ (List.mem_append_right _ hp)))
end
end Mine
end

-- part LD
section
open PySem PySem.W PySem.Calls PyProof.Rows PySem.W.X LCg
set_option maxRecDepth 100000
set_option maxHeartbeats 4000000
namespace Mine
theorem pairs_any {prog : Program} {w : World} {es : List DictEntry} {ka : List (Int × Value)} (H : Pairs (intKind prog w) es ka) (prog' : Program) (w' : World) : Pairs (intKind prog' w') es ka := by
  induction H with
  | nil => exact .nil
  | cons a b _ ih => exact .cons a b ih
theorem dict_any {prog : Program} {w : World} {h : Heap} {a : Addr} {ka : List (Int × Value)} (H : h.DictOf (intKind prog w) a ka) (prog' : Program) (w' : World) : h.DictOf (intKind prog' w') a ka := by
  obtain ⟨o, es, ep, h1, h2, h3, h4, h5, h6⟩ := H
  exact ⟨o, es, ep, h1, h2, h3, h4, pairs_any h5 _ _, h6⟩
section
variable {prog : Program} {w : World} {A : Around} {E : Value → Shared → Prop} {s : Shared} {h₀ : Heap} {L a b : Addr} {news : List (Addr × Obj)} {Q : Value → Shared → Prop} {oa ob : Obj} {ka kb : List (Int × Value)} {da db : List (Int × Str)}
theorem eqAt_dicts (N : News h₀ L s.heap news) (pa : (a, oa) ∈ news) (pb : (b, ob) ∈ news) (ha : oa.IsDictOf (intKind prog w) ka) (hb : ob.IsDictOf (intKind prog w) kb) (la : (a == sysModules) = false) (lb : (b == sysModules) = false)
    (va : KV ka da) (vb : KV kb db) (hu : A.units < cLine) (hl : ∀ k, look da k = look db k) : SeqAt.EqAt A s (.ref a) (.ref b) true := by
  by_cases q : a = b
  · subst q; exact SeqAt.EqAt.same _
  · refine SeqAt.EqAt.of_refs q fun prog' w' E Q h => ?_
    obtain ⟨e1, e2⟩ := same_hits (A := A.in1) (s := s) va vb (nk_of ha va) (nk_of hb vb) hl
    refine keq_eq (knd := intKind prog' w') (r := true) la lb (dict_any (Heap.dictOf_iff.mpr ⟨oa, N.get pa, ha⟩) _ _) (dict_any (Heap.dictOf_iff.mpr ⟨ob, N.get pb, hb⟩) _ _) hu (fun _ => e2) ?_
    rw [e1, beq_self_eq_true]; exact h
end
end Mine
end

-- part LE
section
open PySem PySem.W PySem.Calls PyProof.Rows PySem.W.X LCg LCt
set_option maxRecDepth 100000
set_option maxHeartbeats 4000000
namespace Mine
section
variable {prog : Program} {w : World} {A : Around} {E : Value → Shared → Prop} {s : Shared} {h₀ : Heap} {L : Addr} {m : Str → Option Value} {env : Env}
/-- the source of a comprehension: a dict of the ledger -/
def CompSrcTD (prog : Program) (w : World) (A : Around) (h₀ : Heap) (L : Addr) (m : Str → Option Value) (env : Env) (ct elt : PySem.Expr) (x : Str) (scope : Scope) (cl : List (Str × Addr)) (Fin : Shared → List Value → List (Addr × Obj) → Prop) (xv : Value) (s₁ : Shared) : Prop :=
  ∃ ax o kvs news, xv = .ref ax ∧ A.handled = none ∧ (ax == sysModules) = false ∧ Fr h₀ L s₁.heap m ∧ News h₀ L s₁.heap news ∧ (ax, o) ∈ news ∧ o.IsDictOf (intKind prog w) kvs ∧ kvs.length ≤ sizeLine ∧
    ∀ s₂ : Shared, (∃ h, s₂ = { s₁ with heap := h }) → CompRestT prog w A h₀ L m env ct elt x scope cl s₂ (fun nw => (ax, o) ∈ nw) (fun i v => ∃ k x, kvs[i]? = some (k, x) ∧ (intKind prog w).is k v = true) (Fin s₂) kvs.length 0 [] news

theorem ListComp_TD {ct elt iter : PySem.Expr} {x : Str} {px : Pos} {scope : Scope} {cl : List (Str × Addr)} {pos : Pos} {Q : Value → Shared → Prop} (F₀ : Fr h₀ L s.heap m)
    (hclos : closureFor scope env = pure cl) (hcell : ∀ y ∈ scope.names, y.2 ≠ .cell) (hkind : scope.kind = .function)
    (hnames : ∀ y ∈ scope.names, y.2 = .local → scope.names.lookup y.1 = some .local) (hx : scope.names.lookup x = some .local)
    (h : wpAny (model prog w) A (eval iter env) (CompSrcTD prog w A h₀ L m env ct elt x scope cl (fun s₂ => FinE h₀ L m s₂ Q)) E s)
    (hs : ∀ x, foldedSetIterable iter env x = pure x := by intro _; rfl) :
    wpAny (model prog w) A (eval (.ListComp elt [⟨.Name x px, iter, [ct], 0⟩] scope pos) env) Q E s := by
  rw [eval_ListComp]
  refine wpAny_comprehension_free (use := none) rfl hs hclos hkind hnames (wpAny_mono h (fun xv s₁ h₁ => ?_) fun _ _ e => e)
  obtain ⟨ax, o, kvs, news, rfl, hh, lo, F, N, hm, ho, hsz, R⟩ := h₁
  obtain ⟨ep, hK⟩ := KdkAt.of ho
  have hl := hK.dictAt (N _ hm).1
  have hlt : ax < s₁.heap.objs.size := Heap.lt_size (N _ hm).1
  refine wpAny_pyIter_dict lo hl ?_
  have up : ∀ b o, s₁.heap.get? b = some o → (s₁.heap.push { cls := .type "dict_keyiterator", data := .fields #[.ref ax, .int 0 0, .int kvs.length 0, .int ep 0] }).get? b = some o := fun b o e => Heap.get?_push_of_some _ e
  refine block_T (Walks.dictKeys (knd := intKind prog w) hh s₁.heap.objs.size ax (Nat.ne_of_lt hlt) kvs ep) hsz (fun i h st => by obtain ⟨o, e, _⟩ := st.1; exact ⟨o, e⟩)
    (fun i h h' o' nw st e1 e2 _ N' hS => ?_) hcell hkind hx ⟨⟨_, Heap.get?_push_size _ rfl, rfl, rfl⟩, hl.push _⟩ (fun b hb => ?_)
    (F.keeps up) (N.grown up) (Nat.ne_of_lt F.ns.lt) (next_is_new F) (fun p hp => Nat.ne_of_lt (Heap.lt_size (N p hp).1)) hm (R _ ⟨_, rfl⟩) ?_
  · obtain ⟨⟨oI, a1, a2⟩, _⟩ := st
    rw [a1] at e1
    obtain rfl := Option.some.inj e1
    exact ⟨⟨oI, e2, a2⟩, hK.dictAt (N' _ hS).1⟩
  · show b < (s₁.heap.push _).objs.size
    rw [Heap.size_push]
    rcases List.mem_cons.mp hb with rfl | hb
    · exact Nat.lt_succ_self _
    · rw [List.mem_singleton.mp hb]; exact Nat.lt_succ_of_lt hlt
  · intro D C h tk m' ys news' F' N' o1 hn hC₀ hD₀ hCL hDL hCD offC fin
    refine ⟨m', hn, fun h'' hs'' => fin D h'' tk (F'.change hs'' hCL hC₀) (fun p hp => ?_) o1⟩
    refine ⟨hs''.extBut _ _ ?_ (N' p hp).1, (N' p hp).2⟩
    rcases List.mem_cons.mp hp with rfl | hp
    · exact Ne.symm hCD
    · exact offC p hp

/-- no item meets the test -/
theorem rest_false {ct elt : PySem.Expr} {x : Str} {scope : Scope} {cl : List (Str × Addr)} {S : List (Addr × Obj) → Prop} {P : Nat → Value → Prop} {Fin : List Value → List (Addr × Obj) → Prop} {n : Nat} {news : List (Addr × Obj)}
    (hS : S news)
    (turn : ∀ i v I oI C oC D m₂ h tk (E' : Value → Shared → Prop), P i v → NsObj oC m₂ → m₂ x = some v → Fr h₀ L h m → News h₀ L h ((I, oI) :: (C, oC) :: (D, lst []) :: news) →
      wpAny (model prog w) A (isTrue ct (compEnvC scope cl C env) (eval ct (compEnvC scope cl C env))) (fun ok s' => ok = false ∧ ∃ h' tk', s' = { s with heap := h', toks := tk' } ∧ Fr h₀ L h' m ∧ News h₀ L h' ((I, oI) :: (C, oC) :: (D, lst []) :: news)) E' { s with heap := h, toks := tk })
    (fin : Fin [] news) : CompRestT prog w A h₀ L m env ct elt x scope cl s S P Fin n 0 [] news := by
  have key : ∀ (j i : Nat), CompRestT prog w A h₀ L m env ct elt x scope cl s S P Fin j i [] news := by
    intro j
    induction j with
    | zero => intro i; exact CompRestT.zero fin
    | succ j ih =>
      intro i
      refine CompRestT.succ ?_
      intro v I oI C oC D m₂ h tk E' hv hC hx F N off ne
      refine wpAny_mono (turn i v I oI C oC D m₂ h tk E' hv hC hx F N) (fun ok s' hq => ?_) fun _ _ e => e
      obtain ⟨rfl, h', tk', rfl, F', N'⟩ := hq
      simp only [Bool.false_eq_true, if_false]
      exact ⟨h', tk', news, rfl, F', N', off, hS, ih (i + 1)⟩
  exact key n 0
end
section
variable {prog : Program} {w : World} {A : Around} {E : Value → Shared → Prop} {s : Shared} {h₀ : Heap} {L d : Addr} {news : List (Addr × Obj)} {Q : Value → Shared → Prop} {o : Obj} {kvs : List (Int × Value)} {k : Int} {t : Tok}
theorem in_dict (N : News h₀ L s.heap news) (hm : (d, o) ∈ news) (hd : o.IsDictOf (intKind prog w) kvs) (lo : (d == sysModules) = false) (h : Q (.bool (valueAt kvs k).isSome) { s with toks := s.toks + 1 }) :
    wpAny (model prog w) A (compareOp .In (.int k t) (.ref d)) Q E s :=
  wpAny_in_of (intKind_is _ _ _ _) lo (Heap.dictOf_iff.mpr ⟨o, N.get hm, hd⟩ : s.heap.DictOf (intKind prog w) d kvs).mapOf h
theorem in_dict_is {b : Bool} (N : News h₀ L s.heap news) (hm : (d, o) ∈ news) (hd : o.IsDictOf (intKind prog w) kvs) (lo : (d == sysModules) = false) (hb : (valueAt kvs k).isSome = b) (h : Q (.bool b) { s with toks := s.toks + 1 }) :
    wpAny (model prog w) A (compareOp .In (.int k t) (.ref d)) Q E s := in_dict N hm hd lo (by rw [hb]; exact h)
theorem KV.none {kvs d} (h : KV kvs d) {k : Int} (hl : look d k = none) : valueAt kvs k = none := by
  induction h with
  | nil => rfl
  | cons k' r' t _ ih =>
    rw [look_cons] at hl
    unfold valueAt
    rw [List.find?_cons]
    by_cases q : k' = k
    · simp [q] at hl
    · simp only [q, if_false] at hl
      simp only [q, decide_false]
      exact ih hl
/-- two lists of nothing -/
theorem ne_nils {a b : Addr} {n n' : Nat} (N : News h₀ L s.heap news) (ha : (a, PySem.W.listOf #[] n) ∈ news) (hb : (b, PySem.W.listOf #[] n') ∈ news) (hu : A.units < cLine) (h : Q (.bool false) s) : wpAny (model prog w) A (compareOp .NotEq (.ref a) (.ref b)) Q E s := by
  have hl : s.heap.IsList a #[] := ⟨_, N.get ha, rfl, _, rfl⟩
  have hr : s.heap.IsList b #[] := ⟨_, N.get hb, rfl, _, rfl⟩
  exact SeqAt.RcNeAt.lists (e := fun _ => true) hl hr rfl hu (fun j h1 h2 => absurd h1 (Nat.not_lt_zero _)) prog w E Q h
end
end Mine
end

-- part T2
section
open PySem PySem.W PySem.Calls PyProof.Rows
set_option maxRecDepth 100000
set_option maxHeartbeats 4000000
namespace Mine
/-- a table that takes one hash more -/
noncomputable def stepS (t : SetTable) (hs : List Int) (h : Int) : Option (SetTable × List Int) :=
  match t.freeSlot h with
  | some (slot, false) =>
    let hs' := hs.take (t.put slot).2 ++ h :: hs.drop (t.put slot).2
    if (t.put slot).1.fits hs'.length = true then
      if (t.put slot).1.tooFull = true then
        match (t.put slot).1.relaid hs'.toArray (SetTable.grown hs'.length) with
        | some (t2, order) => if (coversAll order hs'.length && t2.fits (order.toList.filterMap (hs'[·]?)).length) = true then some (t2, order.toList.filterMap (hs'[·]?)) else none
        | none => none
      else some ((t.put slot).1, hs')
    else none
  | _ => none
def slotAt (t : SetTable) (i : Nat) : Nat := if i = 0 then 0 else t.place.getD (i - 1) 0 + 1
noncomputable def okS (led : Bool) (st : SetTable × List Int) : Bool :=
  st.1.plain && (st.1.led == led) && st.1.fits st.2.length && (List.range (st.2.length + 1)).all fun i => SetTable.below st.1.place (slotAt st.1 i) == i
/-- the table that a law's set has, by the places of its items -/
noncomputable def tabS (led : Bool) (pl : List Nat) : SetTable := { mask := if pl.length ≤ 4 then 7 else 31, place := pl.toArray, dummies := #[], finger := 0, led := led, moves := if pl.length ≤ 4 then 0 else 1, plain := true }
noncomputable def LV0 : List (List Nat × List Int) := [([], [])]
noncomputable def LV1 : List (List Nat × List Int) := [([0], [0]), ([2], [10]), ([4], [20]), ([6], [30]), ([0], [40]), ([2], [50])]
noncomputable def LV2 : List (List Nat × List Int) := [([0, 2], [0, 10]), ([0, 4], [0, 20]), ([0, 6], [0, 30]), ([0, 2], [0, 40]), ([0, 2], [0, 50]), ([2, 4], [10, 20]), ([2, 6], [10, 30]), ([0, 2], [40, 10]), ([2, 4], [10, 50]), ([4, 6], [20, 30]), ([0, 4], [40, 20]), ([2, 4], [50, 20]), ([0, 6], [40, 30]), ([2, 6], [50, 30]), ([0, 1], [40, 0]), ([0, 2], [40, 50]), ([2, 3], [50, 10])]
noncomputable def LV3 : List (List Nat × List Int) := [([0, 2, 4], [0, 10, 20]), ([0, 2, 6], [0, 10, 30]), ([0, 2, 3], [0, 10, 40]), ([0, 2, 4], [0, 10, 50]), ([0, 4, 6], [0, 20, 30]), ([0, 2, 4], [0, 40, 20]), ([0, 2, 4], [0, 50, 20]), ([0, 2, 6], [0, 40, 30]), ([0, 2, 6], [0, 50, 30]), ([0, 2, 3], [0, 40, 10]), ([0, 2, 4], [0, 40, 50]), ([0, 2, 3], [0, 50, 10]), ([0, 2, 3], [0, 50, 40]), ([2, 4, 6], [10, 20, 30]), ([0, 2, 4], [40, 10, 20]), ([2, 4, 5], [10, 20, 50]), ([0, 2, 6], [40, 10, 30]), ([2, 4, 6], [10, 50, 30]), ([0, 1, 2], [40, 0, 10]), ([0, 2, 4], [40, 10, 50]), ([2, 4, 5], [10, 50, 20]), ([0, 4, 6], [40, 20, 30]), ([2, 4, 6], [50, 20, 30]), ([0, 1, 4], [40, 0, 20]), ([0, 2, 4], [40, 50, 20]), ([2, 3, 4], [50, 10, 20]), ([0, 1, 6], [40, 0, 30]), ([0, 2, 6], [40, 50, 30]), ([2, 3, 6], [50, 10, 30]), ([0, 1, 2], [40, 0, 50]), ([0, 2, 3], [40, 50, 10])]
noncomputable def LV4 : List (List Nat × List Int) := [([0, 2, 4, 6], [0, 10, 20, 30]), ([0, 2, 3, 4], [0, 10, 40, 20]), ([0, 2, 4, 5], [0, 10, 20, 50]), ([0, 2, 3, 6], [0, 10, 40, 30]), ([0, 2, 4, 6], [0, 10, 50, 30]), ([0, 2, 3, 4], [0, 10, 40, 50]), ([0, 2, 4, 5], [0, 10, 50, 20]), ([0, 2, 4, 6], [0, 40, 20, 30]), ([0, 2, 4, 6], [0, 50, 20, 30]), ([0, 2, 3, 4], [0, 40, 10, 20]), ([0, 2, 4, 5], [0, 40, 20, 50]), ([0, 2, 3, 4], [0, 50, 10, 20]), ([0, 2, 3, 4], [0, 50, 40, 20]), ([0, 2, 3, 6], [0, 40, 10, 30]), ([0, 2, 4, 6], [0, 40, 50, 30]), ([0, 2, 3, 6], [0, 50, 10, 30]), ([0, 2, 3, 6], [0, 50, 40, 30]), ([0, 2, 3, 4], [0, 40, 10, 50]), ([0, 2, 4, 5], [0, 40, 50, 20]), ([0, 1, 2, 3], [0, 40, 50, 10]), ([0, 1, 2, 3], [0, 10, 50, 40]), ([0, 2, 4, 6], [40, 10, 20, 30]), ([2, 4, 5, 6], [10, 20, 50, 30]), ([0, 1, 2, 4], [40, 0, 10, 20]), ([0, 2, 4, 5], [40, 10, 20, 50]), ([0, 1, 2, 6], [40, 0, 10, 30]), ([0, 2, 4, 6], [40, 10, 50, 30]), ([2, 4, 5, 6], [10, 50, 20, 30]), ([0, 1, 2, 4], [40, 0, 10, 50]), ([0, 2, 4, 5], [40, 10, 50, 20]), ([0, 1, 4, 6], [40, 0, 20, 30]), ([0, 2, 4, 6], [40, 50, 20, 30]), ([2, 3, 4, 6], [50, 10, 20, 30]), ([0, 1, 2, 4], [40, 0, 50, 20]), ([0, 2, 3, 4], [40, 50, 10, 20]), ([0, 1, 2, 6], [40, 0, 50, 30]), ([0, 2, 3, 6], [40, 50, 10, 30]), ([0, 1, 2, 3], [40, 0, 50, 10])]
noncomputable def LV5 : List (List Nat × List Int) := [([0, 8, 10, 20, 30], [0, 40, 10, 20, 30]), ([0, 10, 18, 20, 30], [0, 10, 50, 20, 30]), ([0, 8, 10, 18, 20], [0, 40, 10, 50, 20]), ([0, 8, 10, 18, 30], [0, 40, 10, 50, 30]), ([0, 8, 18, 20, 30], [0, 40, 50, 20, 30]), ([8, 10, 18, 20, 30], [40, 10, 50, 20, 30])]
noncomputable def LV6 : List (List Nat × List Int) := [([0, 8, 10, 18, 20, 30], [0, 40, 10, 50, 20, 30])]
noncomputable def goodS (led : Bool) (st : List Nat × List Int) : Bool := okS led (tabS led st.1, st.2)
noncomputable def goesS (led : Bool) (next : List (List Nat × List Int)) (st : List Nat × List Int) : Bool :=
  KS.all fun h => st.2.contains h || match stepS (tabS led st.1) st.2 h with
    | some (t, hs) => (t == tabS led t.place.toList) && next.contains (t.place.toList, hs)
    | none => false
theorem lv0_true : (LV0.all fun st => goodS true st && goesS true LV1 st) = true := by decide +kernel
theorem lv1_true : (LV1.all fun st => goodS true st && goesS true LV2 st) = true := by decide +kernel
theorem lv2_true : (LV2.all fun st => goodS true st && goesS true LV3 st) = true := by decide +kernel
theorem lv3_true : (LV3.all fun st => goodS true st && goesS true LV4 st) = true := by decide +kernel
theorem all_cut {α : Type} {f : α → Bool} {l : List α} (n : Nat) (h1 : ((l.take n).all f) = true) (h2 : ((l.drop n).all f) = true) : l.all f = true := by
  rw [← List.take_append_drop n l, List.all_append, h1, h2]; rfl
theorem lv4a : ((LV4.take 10).all fun st => goodS true st && goesS true LV5 st) = true := by decide +kernel
theorem lv4b : (((LV4.drop 10).take 10).all fun st => goodS true st && goesS true LV5 st) = true := by decide +kernel
theorem lv4c : ((((LV4.drop 10).drop 10).take 10).all fun st => goodS true st && goesS true LV5 st) = true := by decide +kernel
theorem lv4d : ((((LV4.drop 10).drop 10).drop 10).all fun st => goodS true st && goesS true LV5 st) = true := by decide +kernel
theorem lv4_true : (LV4.all fun st => goodS true st && goesS true LV5 st) = true := all_cut 10 lv4a (all_cut 10 lv4b (all_cut 10 lv4c lv4d))
theorem lv5_true : (LV5.all fun st => goodS true st && goesS true LV6 st) = true := by decide +kernel
theorem lv6_true : (LV6.all fun st => goodS true st && goesS true [] st) = true := by decide +kernel
theorem relaid_led {t : SetTable} {led : Bool} {hs : Array Int} {n : Nat} : ({ t with led := led } : SetTable).relaid hs n = (t.relaid hs n).map fun p => ({ p.1 with led := led }, p.2) := by
  show SetTable.laid _ _ _ _ _ _ = (SetTable.laid _ _ _ _ _ _).map _
  unfold SetTable.laid
  cases SetTable.layClean (SetTable.sizeAbove n - 1) hs <;> rfl
theorem probe_led {t : SetTable} {led : Bool} {f : Nat → Int} {h : Int} : ∀ (n : Nat) (p : SetTable.Probe), SetTable.probe.go { t with led := led } f h n p = SetTable.probe.go t f h n p := by
  intro n
  induction n with
  | zero => intro p; rfl
  | succ n ih =>
    intro p
    unfold SetTable.probe.go
    have e1 : ({ t with led := led } : SetTable).slot p.j = t.slot p.j := rfl
    have e2 : ∀ q, ({ t with led := led } : SetTable).advance q = t.advance q := fun _ => rfl
    rw [e1]
    simp only [e2, ih]
theorem free_led {t : SetTable} {led : Bool} {h : Int} : ({ t with led := led } : SetTable).freeSlot h = t.freeSlot h := by
  unfold SetTable.freeSlot SetTable.probe
  have e1 : ({ t with led := led } : SetTable).probeStart h = t.probeStart h := rfl
  rw [e1, probe_led]
theorem stepS_led {t : SetTable} {led : Bool} {hs : List Int} {h : Int} : stepS { t with led := led } hs h = (stepS t hs h).map fun p => ({ p.1 with led := led }, p.2) := by
  unfold stepS
  rw [free_led]
  match t.freeSlot h with
  | none => rfl
  | some (_, true) => rfl
  | some (slot, false) =>
    have e2 : ({ t with led := led } : SetTable).put slot = ({ (t.put slot).1 with led := led }, (t.put slot).2) := rfl
    have e3 : ∀ (t' : SetTable) (n : Nat), ({ t' with led := led } : SetTable).fits n = t'.fits n := fun _ _ => rfl
    have e4 : ∀ (t' : SetTable), ({ t' with led := led } : SetTable).tooFull = t'.tooFull := fun _ => rfl
    dsimp only
    rw [e2]
    dsimp only
    rw [e3, e4]
    by_cases c1 : (t.put slot).1.fits (List.take (t.put slot).2 hs ++ h :: List.drop (t.put slot).2 hs).length = true
    · rw [if_pos c1, if_pos c1]
      by_cases c2 : (t.put slot).1.tooFull = true
      · rw [if_pos c2, if_pos c2, relaid_led]
        cases (t.put slot).1.relaid (List.take (t.put slot).2 hs ++ h :: List.drop (t.put slot).2 hs).toArray (SetTable.grown (List.take (t.put slot).2 hs ++ h :: List.drop (t.put slot).2 hs).length) with
        | none => rfl
        | some p =>
          obtain ⟨t2, order⟩ := p
          dsimp only [Option.map_some]
          rw [e3]
          split <;> rfl
      · rw [if_neg c2, if_neg c2]; rfl
    · rw [if_neg c1, if_neg c1]; rfl
theorem goes_led {led : Bool} {next : List (List Nat × List Int)} {st : List Nat × List Int} (h : (goodS true st && goesS true next st) = true) : (goodS led st && goesS led next st) = true := by
  rw [Bool.and_eq_true] at h ⊢
  refine ⟨?_, ?_⟩
  · have := h.1
    simp only [goodS, okS, Bool.and_eq_true] at this ⊢
    exact ⟨⟨⟨this.1.1.1, beq_self_eq_true _⟩, this.1.2⟩, this.2⟩
  · have h2 := h.2
    unfold goesS at h2 ⊢
    rw [List.all_eq_true] at h2 ⊢
    intro x hx
    have h3 := h2 x hx
    have e : stepS (tabS led st.1) st.2 x = (stepS (tabS true st.1) st.2 x).map fun p => ({ p.1 with led := led }, p.2) := stepS_led (t := tabS true st.1)
    rw [e]
    cases hs : stepS (tabS true st.1) st.2 x with
    | none => rw [hs] at h3; exact h3
    | some p =>
      obtain ⟨t, l⟩ := p
      rw [hs] at h3
      simp only [Option.map_some, Bool.or_eq_true, Bool.and_eq_true, beq_iff_eq] at h3 ⊢
      refine h3.imp id fun q => ⟨?_, q.2⟩
      have q1 := q.1
      generalize hp : t.place.toList = pl at q1
      subst q1
      rfl
theorem lv_led {led : Bool} {l next : List (List Nat × List Int)} (h : (l.all fun st => goodS true st && goesS true next st) = true) : (l.all fun st => goodS led st && goesS led next st) = true := by
  rw [List.all_eq_true] at h ⊢
  exact fun x hx => goes_led (h x hx)
theorem goes_of {led : Bool} {l next : List (List Nat × List Int)} (h : (l.all fun st => goodS led st && goesS led next st) = true) {pl : List Nat} {hs : List Int} (hm : (pl, hs) ∈ l) :
    okS led (tabS led pl, hs) = true ∧ ∀ x ∈ KS, hs.contains x = false → ∃ t' hs', stepS (tabS led pl) hs x = some (t', hs') ∧ t' = tabS led t'.place.toList ∧ (t'.place.toList, hs') ∈ next := by
  have h1 := List.all_eq_true.mp h _ hm
  rw [Bool.and_eq_true] at h1
  refine ⟨h1.1, fun x hx hn => ?_⟩
  have h2 := List.all_eq_true.mp h1.2 x hx
  dsimp only at h2
  rw [hn, Bool.false_or] at h2
  cases hst : stepS (tabS led pl) hs x with
  | none => rw [hst] at h2; exact Bool.noConfusion h2
  | some st =>
    obtain ⟨t', hs'⟩ := st
    rw [hst] at h2
    simp only [Bool.and_eq_true, beq_iff_eq, List.contains_iff_mem] at h2
    exact ⟨t', hs', rfl, h2.1, h2.2⟩
/-- a table that the law's sets may have -/
def InLvl (led : Bool) (t : SetTable) (hs : List Int) : Prop :=
  ∃ pl, t = tabS led pl ∧ ((pl, hs) ∈ LV0 ∨ (pl, hs) ∈ LV1 ∨ (pl, hs) ∈ LV2 ∨ (pl, hs) ∈ LV3 ∨ (pl, hs) ∈ LV4 ∨ (pl, hs) ∈ LV5 ∨ (pl, hs) ∈ LV6)
theorem InLvl.both {led : Bool} {t : SetTable} {hs : List Int} (h : InLvl led t hs) :
    okS led (t, hs) = true ∧ ∀ x ∈ KS, hs.contains x = false → ∃ t' hs', stepS t hs x = some (t', hs') ∧ InLvl led t' hs' := by
  obtain ⟨pl, rfl, hm⟩ := h
  have key : ∀ {l next : List (List Nat × List Int)}, (l.all fun st => goodS led st && goesS led next st) = true → (pl, hs) ∈ l → (∀ q ∈ next, q ∈ LV0 ∨ q ∈ LV1 ∨ q ∈ LV2 ∨ q ∈ LV3 ∨ q ∈ LV4 ∨ q ∈ LV5 ∨ q ∈ LV6) →
      okS led (tabS led pl, hs) = true ∧ ∀ x ∈ KS, hs.contains x = false → ∃ t' hs', stepS (tabS led pl) hs x = some (t', hs') ∧ InLvl led t' hs' := fun h hm hn => by
    obtain ⟨a, b⟩ := goes_of h hm
    refine ⟨a, fun x hx hc => ?_⟩
    obtain ⟨t', hs', e1, e2, e3⟩ := b x hx hc
    exact ⟨t', hs', e1, _, e2, hn _ e3⟩
  rcases hm with hm | hm | hm | hm | hm | hm | hm
  · exact key (lv_led lv0_true) hm (fun _ q => .inr (.inl q))
  · exact key (lv_led lv1_true) hm (fun _ q => .inr (.inr (.inl q)))
  · exact key (lv_led lv2_true) hm (fun _ q => .inr (.inr (.inr (.inl q))))
  · exact key (lv_led lv3_true) hm (fun _ q => .inr (.inr (.inr (.inr (.inl q)))))
  · exact key (lv_led lv4_true) hm (fun _ q => .inr (.inr (.inr (.inr (.inr (.inl q))))))
  · exact key (lv_led lv5_true) hm (fun _ q => .inr (.inr (.inr (.inr (.inr (.inr q))))))
  · exact key (lv_led lv6_true) hm (fun _ q => absurd q (by simp))
theorem InLvl.ok {led : Bool} {t : SetTable} {hs : List Int} (h : InLvl led t hs) : t.plain = true ∧ t.led = led ∧ t.fits hs.length = true ∧ ∀ i ≤ hs.length, SetTable.below t.place (slotAt t i) = i := by
  have h1 := h.both.1
  simp only [okS, Bool.and_eq_true, beq_iff_eq, List.all_eq_true, List.mem_range] at h1
  exact ⟨h1.1.1.1, h1.1.1.2, h1.1.2, fun i hi => h1.2 i (Nat.lt_succ_of_le hi)⟩
theorem InLvl.fresh (led : Bool) : InLvl led (SetTable.fresh 0 0 led) [] := ⟨[], rfl, .inl (.head _)⟩
theorem hash_KS {x : Int} (hx : x ∈ KS) : hashInt x = x := by
  have : ∀ x ∈ KS, hashInt x = x := by decide +kernel
  exact this x hx
end Mine
end

-- part T3
section
open PySem PySem.W PySem.Calls PyProof.Rows
set_option maxRecDepth 100000
set_option maxHeartbeats 4000000
namespace Mine
theorem InLvl.len {led : Bool} {t : SetTable} {hs : List Int} (h : InLvl led t hs) : hs.length ≤ 6 := by
  obtain ⟨pl, _, hm⟩ := h
  have k0 : ∀ st ∈ LV0, st.2.length ≤ 6 := by decide
  have k1 : ∀ st ∈ LV1, st.2.length ≤ 6 := by decide
  have k2 : ∀ st ∈ LV2, st.2.length ≤ 6 := by decide
  have k3 : ∀ st ∈ LV3, st.2.length ≤ 6 := by decide
  have k4 : ∀ st ∈ LV4, st.2.length ≤ 6 := by decide
  have k5 : ∀ st ∈ LV5, st.2.length ≤ 6 := by decide
  have k6 : ∀ st ∈ LV6, st.2.length ≤ 6 := by decide
  rcases hm with q | q | q | q | q | q | q
  · exact k0 _ q
  · exact k1 _ q
  · exact k2 _ q
  · exact k3 _ q
  · exact k4 _ q
  · exact k5 _ q
  · exact k6 _ q
theorem insertAt_list {α : Type} (xs : Array α) (p : Nat) (x : α) : (SetTable.insertAt xs p x).toList = xs.toList.take p ++ x :: xs.toList.drop p := by
  unfold SetTable.insertAt
  rw [Array.toList_append, Array.toList_push, Array.toList_extract, Array.toList_extract, List.extract_eq_drop_take, List.extract_eq_drop_take]
  simp only [List.drop_zero, Nat.sub_zero, List.append_assoc, List.singleton_append]
  rw [List.take_of_length_le (l := List.drop p xs.toList) (by simp)]
/-- a set of the ledger: its items' hashes in the table's order -/
def SetAt (led : Bool) (h : Heap) (a : Addr) (hs : List Int) : Prop :=
  ∃ o es ep t, h.get? a = some o ∧ o.ExactSet ∧ o.data = .set es ep t ∧ InLvl led t hs ∧ es.toList.map (·.1) = hs ∧ ∀ e ∈ es.toList, e.1 ∈ KS ∧ ∃ tok, e.2 = .int e.1 tok
theorem insert_perm {l : List Int} (p : Nat) (x : Int) : (l.take p ++ x :: l.drop p).Perm (l ++ [x]) := by
  have h1 : (l.take p ++ x :: l.drop p).Perm (x :: (l.take p ++ l.drop p)) := List.perm_middle
  rw [List.take_append_drop] at h1
  exact h1.trans (List.perm_append_singleton x l).symm
section
variable {prog : Program} {w : World} {A : Around} {E : Value → Shared → Prop} {s : Shared}
theorem add_raw {led : Bool} {a : Addr} {hs : List Int} {x : Int} {tok : Tok} {Q : Bool → Shared → Prop} (hx : x ∈ KS) (hS : SetAt led s.heap a hs)
    (h : ∀ b h' hs', Heap.SameBut a s.heap h' → SetAt led h' a hs' → ((hs' = hs ∧ x ∈ hs) ∨ (x ∉ hs ∧ hs'.Perm (hs ++ [x]))) → Q b { s with heap := h' }) :
    wpAny (model prog w) A (setAddHashed a (.int x tok) ((intKind prog w).hash x)) Q E s := by
  obtain ⟨o, es, ep, t, ho, hex, hd, hL, hm, he⟩ := hS
  obtain ⟨hpl, hled, hft, _⟩ := hL.ok
  have hlen := hL.len
  have hsz : es.size = hs.length := by rw [← hm, List.length_map, Array.length_toList]
  have hf : t.fits es.size = true := by rw [hsz]; exact hft
  have hb : es.size < scanBound := by rw [hsz]; unfold scanBound; omega
  have hel : ElemsOf (intKind prog w) es.toList := fun e q => by
    obtain ⟨hk, tk, e2⟩ := he e q
    exact ⟨⟨e.1, by rw [e2]; exact intKind_is _ _ _ _, (hash_KS hk).symm⟩, by rw [e2]; rfl⟩
  unfold setAddHashed setAddHashedIn
  refine wpAny_holding (wpAny_bind (wpAny_setState_of ho hd hf ?_))
  dsimp only
  rw [byScan_of rfl hb hel]
  simp only [↓reduceIte]
  unfold setAddByScan
  refine wpAny_bind ?_
  refine wpAny_bind (wpAny_rule ?_)
  refine wpAny_bind (wpAny_setScan_of (knd := intKind prog w) (k := x) (intKind_is _ _ _ _) ho hd hf hel ?_)
  cases hr : List.findIdx? (fun e => (intKind prog w).is x e.2) es.toList with
  | some j =>
    dsimp only
    obtain ⟨hj, hpj, _⟩ := List.findIdx?_eq_some_iff_getElem.mp hr
    have hmem : x ∈ hs := by
      obtain ⟨hk, tk, e2⟩ := he _ (List.getElem_mem hj)
      have h3 : (intKind prog w).is x (.int (es.toList[j]).1 tk) = true := by rw [← e2]; exact hpj
      have h4 : x = (es.toList[j]).1 := (intKind prog w).inj (.int (es.toList[j]).1 tk) x _ h3 (intKind_is _ _ _ _)
      rw [h4, ← hm]; exact List.mem_map.mpr ⟨_, List.getElem_mem hj, rfl⟩
    refine wpAny_pure (wpAny_pure ?_)
    exact h false s.heap hs (Heap.SameBut.refl a s.heap) ⟨o, es, ep, t, ho, hex, hd, hL, hm, he⟩ (.inl ⟨rfl, hmem⟩)
  | none =>
    dsimp only
    have hnm : x ∉ hs := fun q => by
      rw [← hm] at q
      obtain ⟨e, hem, hex'⟩ := List.mem_map.mp q
      obtain ⟨hk, tk, e2⟩ := he e hem
      have h5 := List.findIdx?_eq_none_iff.mp hr e hem
      rw [e2, hex', intKind_is] at h5
      exact Bool.noConfusion h5
    have hcn : hs.contains x = false := by
      cases q : hs.contains x with
      | false => rfl
      | true => exact absurd (List.contains_iff_mem.mp q) hnm
    obtain ⟨t2, hs2, hst, hL2⟩ := hL.both.2 x hx hcn
    rw [show (intKind prog w).hash x = x from hash_KS hx]
    unfold stepS at hst
    split at hst
    · rename_i slot hfs
      dsimp only at hst
      generalize hP : (t.put slot).2 = P at hst
      generalize hT : (t.put slot).1 = T' at hst
      have hput : t.put slot = (T', P) := by rw [← hP, ← hT]
      have hTp : T'.plain = true := by rw [← hT]; exact hpl
      split at hst
      · rename_i hfit
        generalize hE : SetTable.insertAt es P (x, Value.int x tok) = es1
        have hl1 : es1.toList = es.toList.take P ++ (x, Value.int x tok) :: es.toList.drop P := by rw [← hE]; exact insertAt_list _ _ _
        have hm1 : es1.toList.map (·.1) = hs.take P ++ x :: hs.drop P := by rw [hl1, List.map_append, List.map_cons, List.map_take, List.map_drop, hm]
        have he1 : ∀ e ∈ es1.toList, e.1 ∈ KS ∧ ∃ tok, e.2 = .int e.1 tok := fun e q => by
          rw [hl1] at q
          rcases List.mem_append.mp q with q | q
          · exact he e (List.mem_of_mem_take q)
          · rcases List.mem_cons.mp q with q | q
            · rw [q]; exact ⟨hx, tok, rfl⟩
            · exact he e (List.mem_of_mem_drop q)
        have hs1 : es1.size = (hs.take P ++ x :: hs.drop P).length := by rw [← hm1, List.length_map, Array.length_toList]
        have hlay : layNew t es x (.int x tok) = (es1, T', false, false) := by
          unfold layNew
          rw [hfs]
          dsimp only
          rw [hput]
          dsimp only
          rw [hE, hs1]
          unfold SetTable.orStandIn
          rw [if_pos hfit, hfit]; rfl
        have hp1 : (hs.take P ++ x :: hs.drop P).Perm (hs ++ [x]) := insert_perm P x
        have hsz1 : es1.size ≤ sizeLine := by rw [hs1, hp1.length_eq, List.length_append, sizeLine_eq]; simp only [List.length_cons, List.length_nil]; omega
        rw [hlay]
        dsimp only
        refine wpAny_bind (wpAny_pure ?_)
        rw [hTp, hashByValue_scannable 8 (x := .int x tok) rfl]
        simp only [↓reduceIte]
        refine wpAny_bind (wpAny_pure ?_)
        simp only [plainKind, ↓reduceIte]
        refine wpAny_bind (wpAny_storeSet_of ho hd ?_ hsz1)
        have hg1 : (s.heap.update a (Obj.putSet es1 T')).get? a = some { o with data := .set es1 (ep + 1) T' } := by
          have := Heap.get?_update_self (Obj.putSet es1 T') ho (by rw [putSet_of es1 T' hd]; rfl)
          rw [putSet_of es1 T' hd] at this; exact this
        have hsb1 := Heap.SameBut.update s.heap a (Obj.putSet es1 T')
        split at hst
        · rename_i hfull
          rw [hfull]
          simp only [Bool.not_false, Bool.and_self, ↓reduceIte]
          split at hst
          · rename_i t3 order hrel
            split at hst
            · rename_i hcv
              have hst' := Option.some.inj hst
              have e1 : t3 = t2 := congrArg Prod.fst hst'
              have e2 : order.toList.filterMap ((hs.take P ++ x :: hs.drop P)[·]?) = hs2 := congrArg Prod.snd hst'
              have hmap : es1.map (·.1) = (hs.take P ++ x :: hs.drop P).toArray := Array.toList_inj.mp (by rw [Array.toList_map]; exact hm1)
              have hnat : ∀ l : List Nat, (l.filterMap (es1[·]?)).map (·.1) = l.filterMap ((hs.take P ++ x :: hs.drop P)[·]?) := fun l => by
                rw [List.map_filterMap]
                congr 1
                funext i
                rw [← hm1, List.getElem?_map, Array.getElem?_toList]
              have hl2 : (order.filterMap (es1[·]?)).toList = order.toList.filterMap (es1[·]?) := Array.toList_filterMap
              have hs3 : (order.filterMap (es1[·]?)).size = (order.toList.filterMap ((hs.take P ++ x :: hs.drop P)[·]?)).length := by
                rw [← Array.length_toList, hl2, ← hnat, List.length_map]
              have hra : relayAll T' es1 (SetTable.grown es1.size) = (order.filterMap (es1[·]?), t3, false) := by
                unfold relayAll
                rw [hmap, hs1, hrel]
                dsimp only
                rw [hs3, if_pos hcv]
              have hperm := relayAll_perm T' es1 (SetTable.grown es1.size)
              rw [hra] at hperm
              have hm2 : (order.filterMap (es1[·]?)).toList.map (·.1) = hs2 := by rw [hl2, hnat, e2]
              have hp2 : hs2.Perm (hs ++ [x]) := by
                rw [← hm2]
                refine (hperm.map (·.1)).trans ?_
                rw [hm1]; exact hp1
              rw [hra]
              dsimp only
              refine wpAny_bind (wpAny_pure ?_)
              refine wpAny_bind (wpAny_storeSet_of hg1 rfl ?_ (by rw [← Array.length_toList, hperm.length_eq, Array.length_toList]; exact hsz1))
              have hg2 : ((s.heap.update a (Obj.putSet es1 T')).update a (Obj.putSet (order.filterMap (es1[·]?)) t3)).get? a = some { o with data := .set (order.filterMap (es1[·]?)) (ep + 1 + 1) t3 } := by
                have := Heap.get?_update_self (Obj.putSet (order.filterMap (es1[·]?)) t3) hg1 (by rw [putSet_of _ t3 rfl]; rfl)
                rw [putSet_of _ t3 rfl] at this; exact this
              refine wpAny_pure (wpAny_pure ?_)
              exact h true _ hs2 (hsb1.trans (Heap.SameBut.update _ a _)) ⟨_, _, _, t3, hg2, hex, rfl, e1 ▸ hL2, hm2, fun e q => he1 e (hperm.mem_iff.mp q)⟩ (.inr ⟨hnm, hp2⟩)
            · cases hst
          · cases hst
        · rename_i hfull
          have hst' := Option.some.inj hst
          have e1 : T' = t2 := congrArg Prod.fst hst'
          have e2 : hs.take P ++ x :: hs.drop P = hs2 := congrArg Prod.snd hst'
          rw [show T'.tooFull = false from by simpa using hfull]
          simp only [Bool.not_false, Bool.and_false, Bool.false_eq_true, ↓reduceIte]
          refine wpAny_pure (wpAny_pure ?_)
          exact h true _ hs2 hsb1 ⟨_, es1, ep + 1, T', hg1, hex, rfl, e1 ▸ hL2, by rw [hm1, e2], he1⟩ (.inr ⟨hnm, e2 ▸ hp1⟩)
      · cases hst
    · cases hst
end
end Mine
end

-- part T4
section
open PySem PySem.W PySem.Calls PyProof.Rows
set_option maxRecDepth 100000
set_option maxHeartbeats 4000000
namespace Mine
theorem SetAt.keeps {led : Bool} {h h' : Heap} {a : Addr} {hs : List Int} (x : SetAt led h a hs) (k : ∀ o, h.get? a = some o → h'.get? a = some o) : SetAt led h' a hs := by
  obtain ⟨o, es, ep, t, ho, r⟩ := x
  exact ⟨o, es, ep, t, k o ho, r⟩
section
variable {prog : Program} {w : World} {A : Around} {E : Value → Shared → Prop} {s : Shared}
/-- a set fed by an iterator -/
theorem set_loop {R : Result → Shared → Prop} {I : Addr} {fp wr : List Addr} {GG : Array GenState → Array GenState → Prop} {n : Nat} {P : Nat → Value → Prop} {St : Nat → Shared → Prop} {led : Bool}
    (W : WalksS prog w A.in1 I fp wr GG n P St) (S : Addr) (hSf : S ∉ fp) (val : Nat → Int) (hval : ∀ i v, P i v → ∃ t, v = .int (val i) t) (hK : ∀ i < n, val i ∈ KS) :
    ∀ (k i : Nat) (s : Shared) (hs : List Int), n - i = k → i ≤ n → St i s → SetAt led s.heap S hs → hs.Nodup → (∀ y, y ∈ hs ↔ ∃ j < i, val j = y) →
      (∀ s' hs', Moved (S :: wr) GG s s' → SetAt led s'.heap S hs' → hs'.Nodup → (∀ y, y ∈ hs' ↔ ∃ j < n, val j = y) → R (.ok (.ret .none)) s') →
      codeAny (model prog w) A (.builtin "set.update.loop" ⟨[.ref S, .ref I], []⟩) R s := by
  have hSw : S ∉ wr := fun h => hSf (W.sub _ h)
  have hsub : ∀ b ∈ wr, b ∈ S :: wr := fun b hb => List.mem_cons_of_mem _ hb
  intro k
  induction k with
  | zero =>
    intro i s hs hk hi hst hS hn hy hR
    obtain rfl : i = n := by omega
    refine codeAny_builtin F.entry_set_update_loop ?_
    rw [Around.under_plainId F.plain_set_update_loop _]
    show wpAny _ A.in1 (pyNext (.ref I) >>= _) _ _ s
    refine wpAny_bind (W.done s _ _ hst fun s' hm => ?_)
    show wpAny _ A.in1 (ret Value.none) _ _ s'
    exact wpAny_pure (hR s' hs (hm.mono hsub) (hS.keeps fun o ho => hm.heap S _ hSw ho) hn hy)
  | succ k ih =>
    intro i s hs hk hi hst hS hn hy hR
    have hlt : i < n := by omega
    refine codeAny_builtin F.entry_set_update_loop ?_
    rw [Around.under_plainId F.plain_set_update_loop _]
    show wpAny _ A.in1 (pyNext (.ref I) >>= _) _ _ s
    refine wpAny_bind (W.item i s _ _ hlt hst fun v s' hP hst' hm => ?_)
    obtain ⟨t, rfl⟩ := hval i v hP
    have hS' : SetAt led s'.heap S hs := hS.keeps fun o ho => hm.heap S _ hSw ho
    show wpAny _ A.in1 (holding [Value.int (val i) t] (setAdd S (.int (val i) t)) >>= _) _ _ s'
    refine wpAny_bind (wpAny_holding ?_)
    unfold setAdd
    refine wpAny_holding ?_
    refine wpAny_bind ((intKind prog w).pyHash (k := val i) (intKind_is _ _ _ _) ?_)
    refine add_raw (s := { s' with toks := s'.toks + 1 }) (hK i hlt) hS' fun b h' hs' hsb hS2 hcase => ?_
    have hn' : hs'.Nodup := by
      rcases hcase with ⟨rfl, _⟩ | ⟨hx, hp⟩
      · exact hn
      · refine hp.nodup_iff.mpr ?_
        rw [List.nodup_append]
        exact ⟨hn, by simp, fun a ha b hb e => hx (by rw [← List.mem_singleton.mp hb, ← e]; exact ha)⟩
    have hy' : ∀ y, y ∈ hs' ↔ ∃ j < i + 1, val j = y := fun y => by
      have h1 : y ∈ hs' ↔ y ∈ hs ∨ y = val i := by
        rcases hcase with ⟨rfl, hx⟩ | ⟨hx, hp⟩
        · exact ⟨.inl, fun q => q.elim id fun e => e ▸ hx⟩
        · rw [hp.mem_iff, List.mem_append, List.mem_singleton]
      rw [h1, hy y]
      constructor
      · rintro (⟨j, hj, e⟩ | rfl)
        · exact ⟨j, by omega, e⟩
        · exact ⟨i, by omega, rfl⟩
      · rintro ⟨j, hj, e⟩
        by_cases q : j = i
        · exact .inr (by rw [← e, q])
        · exact .inl ⟨j, by omega, e⟩
    refine wpAny_pure ⟨plainId_quiet F.plain_set_update_loop _, ih (i + 1) _ hs' (by omega) hlt (W.frame _ s' _ _ hst' (Nat.le_succ _) fun b hb o e => ?_) hS2 hn' hy' fun s'' hs'' hm'' hS'' => ?_⟩
    · rw [hsb.2 b (fun h : b = S => hSf (by rw [← h]; exact hb))]; exact e
    · refine hR s'' hs'' (Moved.trans W.gtrans ((hm.mono hsub).then_heap (Nat.le_succ _) fun b o hb e => ?_) hm'') hS''
      rw [hsb.2 b (fun h : b = S => hb (by rw [h]; exact List.mem_cons_self))]; exact e
end
end Mine
end

-- part T5
section
open PySem PySem.W PySem.Calls PyProof.Rows
set_option maxRecDepth 100000
set_option maxHeartbeats 4000000
namespace Mine
def ledOf (w : World) : Bool := !w.params.followText "set-order"
section
variable {prog : Program} {w : World} {A : Around} {E : Value → Shared → Prop} {s : Shared}
/-- a fresh set, its leading known -/
theorem code_set_led (a : Value) {Q₁ : Value → Shared → Prop}
    (h : Q₁ (.ref s.heap.objs.size) { s with heap := s.heap.push { cls := .type "set", dict := none, data := .set #[] 0 (.fresh 0 0 (ledOf w)) } }) :
    codeAny (model prog w) A (.call (.builtin "set.__new__") ⟨[.type "set", a], []⟩) (wants Q₁ E) s := by
  refine codeAny_of_tree ?_
  show wpAny _ A.in1 (do checkBuiltinCall "set.__new__" ⟨[.type "set", a], []⟩; again (.builtin "set.__new__" ⟨[.type "set", a], []⟩)) _ _ s
  refine wpAny_bind (wpAny_of_eq (PySem.F.newCall_set_1 a) (wpAny_pure ⟨plainId_quiet PySem.F.plain_set_new _, codeAny_builtin PySem.F.entry_set_new ?_⟩))
  rw [Around.under_plainId PySem.F.plain_set_new _]
  unfold Builtin.«set.__new__» Builtin.Frozenset.newClass
  have hsub := sub_set_self
  obtain ⟨hp, g, d, tk, os⟩ := s
  dsimp only
  wp_walk
  refine wpAny_askSetting (wpAny_pure ?_)
  dsimp only
  simp only [newObj]
  refine wpAny_bind (wpAny_alloc (wpAny_pure ?_))
  exact wpAny_pure h
/-- set(l) of a list of the law's lines -/
theorem call_set_KS {l : Addr} {items : Array Value} {ns : List Int} {Q : Value → Shared → Prop}
    (hh : A.handled = none) (hl : s.heap.IsList l items) (hi : IntsAre items.toList ns) (hK : ∀ x ∈ ns, x ∈ KS)
    (h : ∀ (h' : Heap) (tk : Nat) (hs : List Int), SetAt (ledOf w) h' s.heap.objs.size hs → hs.Nodup → (∀ y, y ∈ hs ↔ y ∈ ns) →
      (∀ b o, b < s.heap.objs.size → s.heap.get? b = some o → h'.get? b = some o) → Q (.ref s.heap.objs.size) { s with heap := h', toks := tk }) :
    wpAny (model prog w) A (call (.type "set") [.ref l]) Q E s := by
  have hlen : items.size = ns.length := by
    have := IntsAre.length hi
    rw [Array.length_toList] at this; exact this
  have hmn : ∀ y, (∃ j < items.size, ns.getD j 0 = y) ↔ y ∈ ns := fun y => by
    rw [hlen]
    constructor
    · rintro ⟨j, hj, rfl⟩; exact kso_getD hj
    · intro hy
      obtain ⟨j, hj, e⟩ := List.mem_iff_getElem.mp hy
      exact ⟨j, hj, by rw [List.getD_eq_getElem?_getD, List.getElem?_eq_getElem hj]; exact e⟩
  obtain ⟨c, tl, hmro⟩ := PySem.F.called_set.mro
  have hmade := PySem.F.called_set.made
  have hsub := PySem.F.called_set.sub
  refine wpAny_call (codeAny_of_tree ?_)
  show wpAny _ _ (callAny (.type "set") _) _ _ _
  refine wpAny_pure ⟨Code.quiet_builtin _ (by decide +kernel), codeAny_builtin PySem.F.entry_type_call ?_⟩
  rw [Around.under_plain (weight_type_call_type "set" [.ref l] []) rfl]
  have h1 := PySem.F.called_set.notType
  have h2 := PySem.F.called_set.canCreate
  have hct := PySem.F.typeCall_set_1 (.ref l)
  repeat (any_goals (first | assumption | wp_step))
  refine codeAny_mono (code_set_led (.ref l) (E := E) (Q₁ := fun obj s₁ => obj = .ref s.heap.objs.size ∧ s₁ = { s with heap := s.heap.push { cls := .type "set", dict := none, data := .set #[] 0 (.fresh 0 0 (ledOf w)) } }) ⟨rfl, rfl⟩) fun r s₁ hr => ?_
  cases r with
  | error e => exact hr
  | ok fl =>
    cases fl with
    | ret obj =>
      obtain ⟨rfl, rfl⟩ := hr
      have hS : (s.heap.push { cls := .type "set", dict := none, data := .set #[] 0 (.fresh 0 0 (ledOf w)) }).get? s.heap.objs.size = some { cls := .type "set", dict := none, data := .set #[] 0 (.fresh 0 0 (ledOf w)) } := Heap.get?_push_size _ rfl
      have hT : Shared.TypeIs { s with heap := s.heap.push { cls := .type "set", dict := none, data := .set #[] 0 (.fresh 0 0 (ledOf w)) } } (.ref s.heap.objs.size) "set" := ⟨_, hS, rfl⟩
      have hli := PySem.F.called_set.init.lookup
      have hbi := PySem.F.called_set.init.bind (.ref s.heap.objs.size)
      repeat (any_goals (first | assumption | wp_step))
      refine codeAny_mono (codeAny_call_builtin (R := wants (fun r s₂ => r = .none ∧ ∃ h' tk hs, s₂ = { s with heap := h', toks := tk } ∧ SetAt (ledOf w) h' s.heap.objs.size hs ∧ hs.Nodup ∧ (∀ y, y ∈ hs ↔ y ∈ ns) ∧
          (∀ b o, b < s.heap.objs.size → s.heap.get? b = some o → h'.get? b = some o)) E) PySem.F.called_set.init.plain PySem.F.entry_set_init (check_set_init_1 hT ?_)) fun r₂ s₂ hr₂ => ?_
      · obtain ⟨ol, hol, hcl, nl, hdl⟩ := hl
        obtain ⟨ocls, odict, odata, oslots⟩ := ol
        simp only at hcl hdl
        subst hcl; subst hdl
        have hol' : (s.heap.push { cls := .type "set", dict := none, data := .set #[] 0 (.fresh 0 0 (ledOf w)) }).get? l = some { cls := .type "list", dict := odict, data := .seq items nl, slots := oslots } := Heap.get?_push_of_some _ hol
        have hsls := PySem.F.sub_list_set
        have hslf := PySem.F.sub_list_frozenset
        have hne : (Value.type "list" == Value.type "dict") = false := by decide
        have hl1 : (s.heap.push { cls := .type "set", dict := none, data := .set #[] 0 (.fresh 0 0 (ledOf w)) }).IsList l items := ⟨_, hol', rfl, nl, rfl⟩
        unfold Builtin.«set.__init__» noKeywords Builtin.Frozenset.updateFrom
        generalize hPI : pyIter = PI
        wp_walk
        subst hPI
        refine wpAny_pyIter_list hl1 ?_
        refine wpAny_bind (wpAny_runValue ?_)
        have hlS : l < s.heap.objs.size := Heap.lt_size hol
        have hh3 : A.in1.in1.in1.handled = none := by simp [hh]
        have hneI : l ≠ (s.heap.push { cls := .type "set", dict := none, data := .set #[] 0 (.fresh 0 0 (ledOf w)) }).objs.size := by
          rw [Heap.size_push]; exact Nat.ne_of_lt (Nat.lt_succ_of_lt hlS)
        have hSf : s.heap.objs.size ∉ [(s.heap.push { cls := .type "set", dict := none, data := .set #[] 0 (.fresh 0 0 (ledOf w)) }).objs.size, l] := by
          rw [Heap.size_push]; simp only [List.mem_cons, List.mem_singleton, List.not_mem_nil, or_false, not_or]
          exact ⟨Nat.ne_of_lt (Nat.lt_succ_self _), Nat.ne_of_gt hlS⟩
        have hval : ∀ (i : Nat) (v : Value), items[i]? = some v → ∃ t, v = .int ((fun i => ns.getD i 0) i) t := fun i v hv => IntsAre.int_at hi i v (by rw [Array.getElem?_toList]; exact hv)
        refine set_loop ((Walks.list hh3 _ l hneI items).toS) s.heap.objs.size hSf (fun i => ns.getD i 0) hval (fun i q => hK _ ((hmn _).mp ⟨i, q, rfl⟩)) (items.size - 0) 0 _ [] (by omega) (Nat.zero_le _)
          ⟨⟨_, Heap.get?_push_size _ rfl, rfl, rfl⟩, (hl1.push _)⟩ ⟨_, #[], 0, _, Heap.get?_push_of_some _ hS, ⟨rfl, rfl, rfl⟩, rfl, InLvl.fresh _, rfl, fun e q => absurd q (by simp)⟩ List.nodup_nil (fun y => ⟨fun q => absurd q (by simp), fun ⟨j, q, _⟩ => absurd q (Nat.not_lt_zero _)⟩) ?hR
        intro s' hs' hm hS' hn' hy'
        obtain ⟨h', g', d', tk', os'⟩ := s'
        have eg : g' = s.gens := hm.gens
        have ed : d' = s.drawn := hm.drawn
        have eo : os' = s.os := hm.os
        subst eg; subst ed; subst eo
        show wpAny _ _ _ _ _ _
        refine wpAny_pure ?_
        show wpAny _ _ (ret Value.none) _ _ _
        refine wpAny_pure ⟨rfl, h', tk', hs', rfl, hS', hn', fun y => (hy' y).trans (hmn y), fun b o hb e => ?_⟩
        have hb1 : b ≠ s.heap.objs.size := Nat.ne_of_lt hb
        have hb2 : b ≠ (s.heap.push { cls := .type "set", dict := none, data := .set #[] 0 (.fresh 0 0 (ledOf w)) }).objs.size := by
          rw [Heap.size_push]; exact Nat.ne_of_lt (Nat.lt_succ_of_lt hb)
        exact hm.heap b o (by simp only [List.mem_cons, List.mem_singleton, List.not_mem_nil, or_false, not_or]; exact ⟨hb1, hb2⟩) (Heap.get?_push_of_some _ (Heap.get?_push_of_some _ e))
      · cases r₂ with
        | error e => exact hr₂
        | ok fl₂ =>
          cases fl₂ with
          | ret r =>
            obtain ⟨rfl, h', tk, hs, rfl, hS', hn', hy', hk'⟩ := hr₂
            repeat (any_goals (first | assumption | wp_step))
            exact h _ _ _ hS' hn' hy' hk'
          | _ => exact hr₂.elim
    | _ => exact hr.elim
end
end Mine
end

-- part T6
section
open PySem PySem.W PySem.Calls PyProof.Rows
set_option maxRecDepth 100000
set_option maxHeartbeats 4000000
namespace Mine
theorem slot_setit_next : Slot "set_iterator" "__next__" "set_iterator.__next__" :=
  .of (owner := "set_iterator") (n := "__next__") (by rw [typeLookup_type, builtinLookup_eq_fast]; kernel_rfl) (by decide +kernel) (by decide +kernel) (by decide +kernel)
    (by first | exact .inl (by decide +kernel) | exact .inr (by decide +kernel)) (by rw [isSubtype_type]; kernel_rfl)
theorem slot_setit_iter : Slot "set_iterator" "__iter__" "set_iterator.__iter__" :=
  .of (owner := "set_iterator") (n := "__iter__") (by rw [typeLookup_type, builtinLookup_eq_fast]; kernel_rfl) (by decide +kernel) (by decide +kernel) (by decide +kernel)
    (by first | exact .inl (by decide +kernel) | exact .inr (by decide +kernel)) (by rw [isSubtype_type]; kernel_rfl)
theorem entry_setit_next : entryFor table "set_iterator.__next__" = some Builtin.«set_iterator.__next__» := entryFor_of_tree (by kernel_rfl)
theorem owner_setit : Manifest.owners.lookup (String.ofList ['r', 'o', 't', 'a', 'r', 'e', 't', 'i', '_', 't', 'e', 's'].reverse) = some Manifest.sig_set_iterator := by kernel_rfl
theorem args_setit_next (a : Value) : argsOk "set_iterator.__next__" ⟨[a], []⟩ := by
  unfold argsOk; rw [signature?_of (id := "set_iterator.__next__") (n := ['_', '_', 't', 'x', 'e', 'n', '_', '_']) (o := ['r', 'o', 't', 'a', 'r', 'e', 't', 'i', '_', 't', 'e', 's']) (by kernel_rfl) owner_setit]; kernel_rfl
theorem entry_setit_iter : entryFor table "set_iterator.__iter__" = some Builtin.«dict_keyiterator.__iter__» := entryFor_alias (id' := "dict_keyiterator.__iter__") ((fastTable_eq_tree _).trans (by kernel_rfl)) rfl (by rw [PySem.W.S.canonicalZ_eq]; kernel_rfl) ((fastTable_eq_tree _).trans (by kernel_rfl))
theorem args_setit_iter (a : Value) : argsOk "set_iterator.__iter__" ⟨[a], []⟩ := by
  unfold argsOk; rw [signature?_of (id := "set_iterator.__iter__") (n := ['_', '_', 'r', 'e', 't', 'i', '_', '_']) (o := ['r', 'o', 't', 'a', 'r', 'e', 't', 'i', '_', 't', 'e', 's']) (by kernel_rfl) owner_setit]; kernel_rfl
theorem entry_set_iter0 : entryFor table "set.__iter__" = some Builtin.«frozenset.__iter__» := entryFor_alias (id' := "frozenset.__iter__") ((fastTable_eq_tree _).trans (by kernel_rfl)) rfl (by rw [PySem.W.S.canonicalZ_eq]; kernel_rfl) ((fastTable_eq_tree _).trans (by kernel_rfl))
theorem args_set_iter0 (a : Value) : argsOk "set.__iter__" ⟨[a], []⟩ := PySem.F.args_set_iter_1 a
/-- the order in which a set's items come -/
def orderOf (w : World) (a : Addr) (ep : Nat) (es : Array (Int × Value)) : Array (Int × Value) :=
  if w.params.followText "set-order" = true then pickOrder (w.params.setOrder a ep) es else es
/-- a set's iterator, i items given -/
def IsSetIter (w : World) (h : Heap) (I a : Addr) (t : SetTable) (i n ep : Nat) : Prop :=
  ∃ o, h.get? I = some o ∧ o.cls = .type "set_iterator" ∧ o.data = .fields #[rawInt (if w.params.followText "set-order" = true then 0 else slotAt t i : Nat), rawInt (i : Nat), .ref a, rawInt (n : Nat), rawInt (ep : Nat)]
def SetObj (h : Heap) (a : Addr) (es : Array (Int × Value)) (ep : Nat) (t : SetTable) : Prop := ∃ o, h.get? a = some o ∧ o.ExactSet ∧ o.data = .set es ep t
section
variable {prog : Program} {w : World} {A : Around} {E : Value → Shared → Prop} {s : Shared}
theorem set_pyIter {a : Addr} {es : Array (Int × Value)} {ep : Nat} {t : SetTable} {Q : Value → Shared → Prop} (hS : SetObj s.heap a es ep t) (hf : t.fits es.size = true) (hp : t.plain = true)
    (hQ : Q (.ref s.heap.objs.size) { s with heap := s.heap.push { cls := .type "set_iterator", data := .fields #[rawInt 0, rawInt 0, .ref a, rawInt es.size, rawInt ep] } }) :
    wpAny (model prog w) A (pyIter (.ref a)) Q E s := by
  obtain ⟨o, ho, hex, hd⟩ := hS
  have hT : s.TypeIs (.ref a) "set" := ⟨o, ho, hex.1⟩
  refine wpAny_pyIter_slot hT PySem.F.slot_set_iter (wpAny_call_entry PySem.F.slot_set_iter hT entry_set_iter0 ?_ (args_set_iter0 _))
  unfold Builtin.«frozenset.__iter__»
  refine wpAny_bind ?_
  show wpAny _ _ (pure a) _ _ s
  refine wpAny_pure ?_
  refine wpAny_bind ?_
  unfold Builtin.Frozenset.sizeOf
  refine wpAny_bind (wpAny_setEntries_of (prog := prog) ho hd hf (wpAny_pure ?_))
  refine wpAny_bind ?_
  unfold setDrawn
  refine wpAny_bind (wpAny_setState_of ho hd hf ?_)
  dsimp only
  unfold setsByText
  refine wpAny_bind (wpAny_bind (wpAny_askSetting (wpAny_pure ?_)))
  refine wpAny_pure ?_
  refine wpAny_ite_split (fun h => ?_) (fun _ => ?_)
  · exfalso
    have h2 := (Bool.and_eq_true_iff.mp h).2
    change (!t.plain && decide (es.size > 1)) = true at h2
    rw [hp] at h2
    exact Bool.noConfusion h2
  · refine wpAny_bind (wpAny_pure ?_)
    refine wpAny_bind (wpAny_setEpoch_of (prog := prog) ho hd hf ?_)
    refine wpAny_bind (wpAny_newObj_type (wpAny_pure ⟨_, rfl, "set_iterator", _, ⟨_, Heap.get?_push_size _ rfl, rfl⟩, slot_setit_next.lookup, ?_⟩))
    exact hQ
theorem IsSetIter.typeIs {I a : Addr} {t : SetTable} {i n ep : Nat} (x : IsSetIter w s.heap I a t i n ep) : s.TypeIs (.ref I) "set_iterator" := let ⟨o, ho, hc, _⟩ := x; ⟨o, ho, hc⟩
theorem set_self {I a : Addr} {t : SetTable} {i n ep : Nat} {Q : Value → Shared → Prop} (x : IsSetIter w s.heap I a t i n ep) (h : Q (.ref I) s) : wpAny (model prog w) A (pyIter (.ref I)) Q E s := by
  refine wpAny_pyIter_slot x.typeIs slot_setit_iter (wpAny_call_entry slot_setit_iter x.typeIs entry_setit_iter ?_ (args_setit_iter _))
  show wpAny _ _ (ret (.ref I)) _ _ s
  exact wpAny_pure ⟨_, rfl, "set_iterator", _, x.typeIs, slot_setit_next.lookup, h⟩
theorem erase_perm {α : Type} : ∀ (l : List α) (i : Nat) (h : i < l.length), (l[i] :: l.eraseIdx i).Perm l
  | x :: r, 0, _ => List.Perm.refl _
  | x :: r, i + 1, h => by
    have ih := erase_perm r i (Nat.lt_of_succ_lt_succ h)
    exact (List.Perm.swap _ _ _).trans (ih.cons x)
theorem pick_len {α : Type} (next : Nat → Nat) : ∀ (fuel k : Nat) (l : List α) (out : Array α), fuel = l.length → (pickOrder.go next fuel k l out).toList.Perm (out.toList ++ l)
  | 0, k, l, out, h => by
    obtain rfl : l = [] := List.length_eq_zero_iff.mp h.symm
    simp [pickOrder.go]
  | fuel + 1, k, l, out, h => by
    unfold pickOrder.go
    have hl : 0 < l.length := by omega
    have hlt : next k % l.length < l.length := Nat.mod_lt _ hl
    rw [List.getElem?_eq_getElem hlt]
    dsimp only
    have ih := pick_len next fuel (k + 1) (l.eraseIdx (next k % l.length)) (out.push l[next k % l.length]) (by rw [List.length_eraseIdx_of_lt hlt]; omega)
    refine ih.trans ?_
    rw [Array.toList_push, List.append_assoc]
    refine List.Perm.append_left _ ?_
    exact erase_perm _ _ hlt
theorem order_perm {a : Addr} {ep : Nat} {es : Array (Int × Value)} : (orderOf w a ep es).toList.Perm es.toList := by
  unfold orderOf
  split
  · unfold pickOrder
    have := pick_len (w.params.setOrder a ep) es.size 0 es.toList #[] (by simp)
    simpa using this
  · exact List.Perm.refl _
end
end Mine
end

-- part T7
section
open PySem PySem.W PySem.Calls PyProof.Rows
set_option maxRecDepth 100000
set_option maxHeartbeats 4000000
namespace Mine
/-- what is known of a set of the law's -/
structure SetGood (w : World) (es : Array (Int × Value)) (t : SetTable) : Prop where
  fits : t.fits es.size = true
  plain : t.plain = true
  led : t.led = ledOf w
  below : ∀ i ≤ es.size, SetTable.below t.place (slotAt t i) = i
def slotNow (w : World) (t : SetTable) (i : Nat) : Nat := if w.params.followText "set-order" = true then 0 else slotAt t i
section
variable {prog : Program} {w : World} {A : Around} {E : Value → Shared → Prop} {s : Shared}
theorem not_drawn {α : Type} {M : Model} {b : Bool} {Q : α → Shared → Prop} {x y : Sem α} (hb : b = false) (h : wpAny M A y Q E s) : wpAny M A (if b = true then x else y) Q E s := by
  subst hb
  exact h
theorem set_next {a : Addr} {es : Array (Int × Value)} {ep i : Nat} {t : SetTable} {Q : Option (Value × Nat) → Shared → Prop} (hS : SetObj s.heap a es ep t) (hg : SetGood w es t) (hi : i ≤ es.size)
    (h : Q ((orderOf w a ep es)[i]?.map fun e => (e.2, slotNow w t (i + 1))) s) : wpAny (model prog w) A (setNext a (slotNow w t i) i ep) Q E s := by
  obtain ⟨o, ho, hex, hd⟩ := hS
  unfold setNext
  refine wpAny_bind (wpAny_setState_of ho hd hg.fits ?_)
  dsimp only
  unfold setsByText
  refine wpAny_bind (wpAny_bind (wpAny_askSetting (wpAny_pure ?_)))
  unfold orderOf slotNow at h
  unfold slotNow
  cases hb : w.params.followText "set-order" with
  | true =>
    rw [hb] at h
    simp only [↓reduceIte] at h ⊢
    refine wpAny_ite_split (fun _ => ?_) (fun q => absurd hb q)
    refine wpAny_ite_split (fun q => absurd q (by simp)) (fun _ => ?_)
    unfold setWalk
    refine wpAny_bind ?_
    refine wpAny_bind (wpAny_setState_of ho hd hg.fits ?_)
    dsimp only
    unfold setsByText
    refine wpAny_bind (wpAny_bind (wpAny_askSetting (wpAny_pure ?_)))
    refine wpAny_ite_split (fun _ => ?_) (fun q => absurd hb q)
    refine wpAny_bind (wpAny_askSetting ?_)
    exact wpAny_pure (wpAny_pure h)
  | false =>
    rw [hb] at h
    simp only [Bool.false_eq_true, ↓reduceIte] at h ⊢
    refine wpAny_ite_split (fun q => absurd (hb.symm.trans q) (by decide)) (fun _ => ?_)
    refine wpAny_ite_split (fun q => ?_) (fun _ => ?_)
    · exfalso
      change (!t.plain && decide (es.size > 1)) = true at q
      rw [hg.plain] at q
      exact Bool.noConfusion q
    · refine wpAny_bind (wpAny_ite_split (fun q => ?_) (fun _ => wpAny_pure ?_))
      · exfalso
        have q2 := (Bool.and_eq_true_iff.mp q).1
        rw [hg.led] at q2
        unfold ledOf at q2
        rw [hb] at q2
        exact Bool.noConfusion q2
      · rw [hg.below i hi]
        have hf := hg.fits
        simp only [SetTable.fits, Bool.and_eq_true, beq_iff_eq] at hf
        refine wpAny_pure ?_
        by_cases hlt : i < es.size
        · have hp : i < t.place.size := by rw [hf.1]; exact hlt
          rw [Array.getElem?_eq_getElem hlt] at h ⊢
          rw [Array.getElem?_eq_getElem hp]
          have e : slotAt t (i + 1) = t.place[i] + 1 := by
            unfold slotAt
            rw [if_neg (Nat.succ_ne_zero i), Nat.add_sub_cancel]
            simp [Array.getD, hp]
          rw [e] at h
          exact h
        · have hge : es.size ≤ i := Nat.not_lt.mp hlt
          rw [Array.getElem?_eq_none hge] at h ⊢
          exact h
theorem set_item {I a : Addr} {es : Array (Int × Value)} {ep i : Nat} {t : SetTable} {e : Int × Value} {Q : Option Value → Shared → Prop} (x : IsSetIter w s.heap I a t i es.size ep) (hS : SetObj s.heap a es ep t) (hg : SetGood w es t) (hi : i < es.size) (he : (orderOf w a ep es)[i]? = some e)
    (hQ : ∀ h', IsSetIter w h' I a t (i + 1) es.size ep → Heap.SameBut I s.heap h' → Q (some e.2) { s with heap := h' }) : wpAny (model prog w) A (pyNext (.ref I)) Q E s := by
  obtain ⟨o, ho, hc, hd⟩ := id x
  obtain ⟨oa, hoa, hex, hda⟩ := id hS
  unfold pyNext
  refine wpAny_bind (wpAny_attempt (wpAny_callSpecial?_slot (name := Str.ofString "__next__") x.typeIs slot_setit_next
    (wpAny_call_entry slot_setit_next x.typeIs entry_setit_next ?_ (args_setit_next _))))
  unfold Builtin.«set_iterator.__next__»
  refine wpAny_bind (wpAny_pure ?_)
  refine wpAny_bind (wpAny_fieldsOf ho hd ?_)
  dsimp only [rawInt]
  refine wpAny_bind (wpAny_setEntries_of (prog := prog) hoa hda hg.fits ?_)
  rw [if_neg (by simp)]
  simp only [Int.toNat_natCast]
  refine wpAny_bind (set_next hS hg (Nat.le_of_lt hi) ?_)
  rw [he]
  dsimp only [Option.map]
  refine wpAny_bind (wpAny_setField ho hd (by simp) ?_)
  have ho2 : (s.heap.update I (Obj.mapFields (·.setIfInBounds 0 (rawInt (slotNow w t (i + 1) : Nat))))).get? I = some (o.mapFields (·.setIfInBounds 0 (rawInt (slotNow w t (i + 1) : Nat)))) := Heap.get?_update_self _ ho (Obj.isFreed_of_fields (Obj.data_mapFields hd _))
  have hd2 : (o.mapFields (·.setIfInBounds 0 (rawInt (slotNow w t (i + 1) : Nat)))).data = .fields #[rawInt (slotNow w t (i + 1) : Nat), rawInt (i : Nat), .ref a, rawInt (es.size : Nat), rawInt (ep : Nat)] := by rw [Obj.data_mapFields hd]; rfl
  refine wpAny_bind (wpAny_setField ho2 hd2 (by simp) ?_)
  refine wpAny_pure ⟨_, rfl, wpAny_pure (hQ _ ⟨_, Heap.get?_update_self _ ho2 (Obj.isFreed_of_fields (Obj.data_mapFields hd2 _)), ?_, ?_⟩ ((Heap.SameBut.update ..).trans (Heap.SameBut.update ..)))⟩
  · rw [Obj.cls_mapFields, Obj.cls_mapFields]; exact hc
  · rw [Obj.data_mapFields hd2]; rfl
theorem set_end {I a : Addr} {es : Array (Int × Value)} {ep : Nat} {t : SetTable} {Q : Option Value → Shared → Prop} (hh : A.handled = none) (x : IsSetIter w s.heap I a t es.size es.size ep) (hS : SetObj s.heap a es ep t) (hg : SetGood w es t)
    (hQ : ∀ h', Heap.ExtBut I s.heap h' → Q none { s with heap := h' }) : wpAny (model prog w) A (pyNext (.ref I)) Q E s := by
  obtain ⟨o, ho, hc, hd⟩ := id x
  obtain ⟨oa, hoa, hex, hda⟩ := id hS
  have he : (orderOf w a ep es)[es.size]? = none := by
    rw [Array.getElem?_eq_none]
    have := (order_perm (w := w) (a := a) (ep := ep) (es := es)).length_eq
    rw [Array.length_toList, Array.length_toList] at this
    omega
  unfold pyNext
  refine wpAny_bind (wpAny_attempt (wpAny_callSpecial?_slot (name := Str.ofString "__next__") x.typeIs slot_setit_next
    (wpAny_call_entry slot_setit_next x.typeIs entry_setit_next ?_ (args_setit_next _))))
  unfold Builtin.«set_iterator.__next__»
  refine wpAny_bind (wpAny_pure ?_)
  refine wpAny_bind (wpAny_fieldsOf ho hd ?_)
  dsimp only [rawInt]
  refine wpAny_bind (wpAny_setEntries_of (prog := prog) hoa hda hg.fits ?_)
  rw [if_neg (by simp)]
  simp only [Int.toNat_natCast]
  refine wpAny_bind (set_next hS hg (Nat.le_refl _) ?_)
  rw [he]
  dsimp only [Option.map]
  refine wpAny_bind (wpAny_setField ho hd (by simp) ?_)
  refine wpAny_bind ?_
  simp only [newExc, newTuple]
  refine wpAny_bind (wpAny_newObj_type ?_ (by size_fits))
  refine wpAny_bind (m := firstArgMember _ _) (wpAny_of_eq (a := Value.none) (by first | rfl | (simp only [firstArgMember]; rfl)) ?_)
  refine wpAny_newObj_type ?_ (by size_fits)
  simp only [raiseNew]
  refine wpAny_bind (wpAny_handled ?_)
  rw [show A.in1.handled = none from hh]
  refine wpAny_bind (wpAny_pure (wpAny_throw ?_))
  refine wpAny_bind (wpAny_isInstance (T := "StopIteration") (b := true) ⟨_, Heap.get?_push_size _ rfl, rfl⟩ isSubtype_stop ?_)
  exact wpAny_pure (hQ _ (((Heap.SameBut.update ..).extBut.push _).push _))
end
end Mine
end

-- part T8
section
open PySem PySem.W PySem.Calls PyProof.Rows
set_option maxRecDepth 100000
set_option maxHeartbeats 4000000
namespace Mine
section
variable {prog : Program} {w : World} {A : Around} {E : Value → Shared → Prop} {s : Shared} {h₀ : Heap} {L : Addr} {m : Str → Option Value} {news : List (Addr × Obj)} {Q : Value → Shared → Prop}
theorem sort_head {D : Addr} {vs : List Value} {ns : List Int} {n : Nat} (F : Fr h₀ L s.heap m) (N : News h₀ L s.heap ((D, PySem.W.listOf vs.toArray n) :: news)) (hne : ∀ q ∈ news, q.1 ≠ D) (hI : IntsAre vs ns) (h64 : vs.length < 64)
    (h : ∀ vs' ns' c h', Fr h₀ L h' m → News h₀ L h' ((D, PySem.W.listOf (List.toArray vs') c) :: news) → IntsAre vs' ns' → ns'.Perm ns → ns'.Pairwise (· ≤ ·) → Q .none { s with heap := h' }) :
    wpAny (model prog w) A (call (.builtin "list.sort") [.ref D]) Q E s := by
  have hD := N _ (.head _)
  have ho : s.heap.get? D = some (seqObj "list" vs.toArray n) := hD.1
  refine wpAny_call_entry slot_list_sort ⟨_, hD.1, rfl⟩ entry_list_sort (list_sort_tree (n := n) (vs := vs) ho hI h64 fun out ns' hI' hp hP => ⟨.none, rfl, ?_⟩) (args_list_sort _)
  have old : ∀ b o, b ≠ D → s.heap.get? b = some o → (sortedHeap s.heap D vs out).get? b = some o := fun b o hb e => (sortedHeap_old hb (Heap.lt_size e)).trans e
  obtain ⟨c, hc⟩ : ∃ c, (sortedHeap s.heap D vs out).get? D = some (seqObj "list" out c) := sortedHeap_at ho
  refine h out.toList ns' c _ ⟨F.ns.at' fun o e => old L o (Ne.symm hD.2.1) e, fun b o e => old b o (fun q => by rw [q, hD.2.2] at e; cases e) (F.keep b o e), F.above⟩ (fun p hp => ?_) hI' hp hP
  rcases List.mem_cons.mp hp with rfl | hp
  · exact ⟨by rw [Array.toArray_toList]; exact hc, hD.2⟩
  · exact ⟨old _ _ (hne p hp) (N p (.tail _ hp)).1, (N p (.tail _ hp)).2⟩
theorem ints_of : ∀ {vs : List Value} {ns : List Int}, vs.length = ns.length → (∀ j v, vs[j]? = some v → ∃ t, v = Value.int (ns.getD j 0) t) → IntsAre vs ns
  | [], [], _, _ => .nil
  | v :: vs, n :: ns, hl, h => by
    obtain ⟨t, rfl⟩ := h 0 v rfl
    exact .cons n t (ints_of (Nat.succ.inj hl) fun j u hu => h (j + 1) u hu)
  | [], _ :: _, hl, _ => nomatch hl
  | _ :: _, [], hl, _ => nomatch hl
/-- sorted(d) of a dict of the ledger -/
theorem sorted_dict {d : Addr} {o : Obj} {kvs : List (Int × Value)} (hh : A.handled = none) (F : Fr h₀ L s.heap m) (N : News h₀ L s.heap news) (hm : (d, o) ∈ news) (hd : o.IsDictOf (intKind prog w) kvs) (lo : (d == sysModules) = false) (h64 : kvs.length < 64)
    (h : ∀ D vs' ns' c h' tk', Fr h₀ L h' m → News h₀ L h' ((D, PySem.W.listOf (List.toArray vs') c) :: news) → IntsAre vs' ns' → ns'.Perm (kvs.map (·.1)) → ns'.Pairwise (· ≤ ·) → Q (.ref D) { s with heap := h', toks := tk' }) :
    wpAny (model prog w) A (call (.builtin "sorted") [.ref d]) Q E s := by
  obtain ⟨ep, hK⟩ := KdkAt.of hd
  refine kdu_sorted (kdl_dict (knd := intKind prog w) (kvs := kvs) (ep := ep) lo) hh F N (hK.dictAt (N _ hm).1) (by rw [sizeLine_eq]; omega) fun D h' tk vs F' N' l1 hl hv => ?_
  have hI : IntsAre vs (kvs.map (·.1)) := ints_of (by rw [hl, List.length_map]) fun j v e => by
    obtain ⟨k, x, e1, e2⟩ := hv j v e
    obtain ⟨t, rfl⟩ := Value.isInt_shape e2
    exact ⟨t, by rw [List.getD_eq_getElem?_getD, List.getElem?_map, e1]; rfl⟩
  exact sort_head F' N' (fun q hq => Nat.ne_of_lt (l1 q hq)) hI (by rw [hl]; exact h64) fun vs' ns' c h2 F2 N2 hI2 hp hP => h D vs' ns' c h2 tk F2 N2 hI2 hp hP
/-- list(d) of a dict of the ledger -/
theorem list_dict {d : Addr} {o : Obj} {kvs : List (Int × Value)} (hh : A.handled = none) (F : Fr h₀ L s.heap m) (N : News h₀ L s.heap news) (hm : (d, o) ∈ news) (hd : o.IsDictOf (intKind prog w) kvs) (lo : (d == sysModules) = false) (h64 : kvs.length < 64)
    (h : ∀ D vs' c h' tk', Fr h₀ L h' m → News h₀ L h' ((D, PySem.W.listOf (List.toArray vs') c) :: news) → (∀ q ∈ news, q.1 < D) → IntsAre vs' (kvs.map (·.1)) → Q (.ref D) { s with heap := h', toks := tk' }) :
    wpAny (model prog w) A (call (.type "list") [.ref d]) Q E s := by
  obtain ⟨ep, hK⟩ := KdkAt.of hd
  refine kdl_N (kdl_dict (knd := intKind prog w) (kvs := kvs) (ep := ep) lo) hh F N (hK.dictAt (N _ hm).1) (by rw [sizeLine_eq]; omega) fun D c h' tk vs F' N' l1 hl hv => ?_
  refine h D vs c h' tk F' N' l1 (ints_of (by rw [hl, List.length_map]) fun j v e => ?_)
  obtain ⟨k, x, e1, e2⟩ := hv j v e
  obtain ⟨t, rfl⟩ := Value.isInt_shape e2
  exact ⟨t, by rw [List.getD_eq_getElem?_getD, List.getElem?_map, e1]; rfl⟩
end
section
variable {prog : Program} {w : World} {A : Around} {E : Value → Shared → Prop} {s : Shared}
theorem SetObj.keeps {h h' : Heap} {a : Addr} {es : Array (Int × Value)} {ep : Nat} {t : SetTable} (x : SetObj h a es ep t) (k : ∀ o, h.get? a = some o → h'.get? a = some o) : SetObj h' a es ep t := let ⟨o, ho, r⟩ := x; ⟨o, k o ho, r⟩
theorem set_walks (hh : A.handled = none) (I a : Addr) (hne : a ≠ I) (es : Array (Int × Value)) (ep : Nat) (t : SetTable) (hg : SetGood w es t) :
    Walks prog w A I [I, a] [I] es.size (fun i v => ∃ e, (orderOf w a ep es)[i]? = some e ∧ v = e.2) (fun i h => IsSetIter w h I a t i es.size ep ∧ SetObj h a es ep t) where
  sub := fun b hb => by simp at hb; simp [hb]
  frame := fun _ _ _ st hk => ⟨let ⟨o, ho, r⟩ := st.1; ⟨o, hk I (by simp) o ho, r⟩, st.2.keeps fun o e => hk a (by simp) o e⟩
  item := fun i s Q E hi st hQ => by
    have hsz : (orderOf w a ep es).size = es.size := by
      have := (order_perm (w := w) (a := a) (ep := ep) (es := es)).length_eq
      rw [Array.length_toList, Array.length_toList] at this; exact this
    have he : (orderOf w a ep es)[i]? = some ((orderOf w a ep es)[i]'(by rw [hsz]; exact hi)) := Array.getElem?_eq_getElem (by rw [hsz]; exact hi)
    refine set_item st.1 st.2 hg hi he fun h' hit' hs' => ?_
    exact hQ _ h' s.toks ⟨_, he, rfl⟩ ⟨hit', st.2.keeps fun o e => hs'.extBut a o hne e⟩ fun b o hb e => hs'.extBut b o (fun h => hb (by simp [h])) e
  done := fun s Q E st hQ => set_end hh st.1 st.2 hg fun h' he' => hQ h' s.toks fun b o hb e => he' b o (fun h => hb (by simp [h])) e
  self := fun _ _ _ _ st hQ => set_self st.1 hQ
theorem hint_set {r : Addr} {Q : Bool → Shared → Prop} (hT : s.TypeIs (.ref r) "set") (h : Q false s) : wpAny (model prog w) A (Builtin.List.listLengthHint (.ref r)) Q E s := by
  unfold Builtin.List.listLengthHint
  refine wpAny_bind (wpAny_specialOf hT PySem.F.slot_set_len.lookup ?_)
  generalize hid : ("set.__len__" : String) = id0
  wp_delta
  rw [show splitId id0 = some ("set", "__len__") from by subst hid; decide +kernel]
  subst hid
  refine wpAny_bind (wpAny_isInstance (T := "set") (b := true) hT (by rw [isSubtype_type]; kernel_rfl) ?_)
  refine wpAny_ite_split (fun hab => absurd hab (by decide)) (fun _ => ?_)
  refine wpAny_ite_split (fun _ => ?_) (fun hab => absurd (by decide +kernel) hab)
  refine wpAny_bind (wpAny_typeOf hT ?_)
  exact wpAny_pure h
theorem kdl_set {a : Addr} {es : Array (Int × Value)} {ep : Nat} {t : SetTable} (hg : SetGood w es t) : KdlSrc prog w "set" a a es.size (fun i v => ∃ e, (orderOf w a ep es)[i]? = some e ∧ v = e.2) (fun h => SetObj h a es ep t) where
  type := fun _ hm => let ⟨o, ho, hex, _⟩ := hm; ⟨o, ho, hex.1⟩
  there := fun _ hm => let ⟨_, ho, _⟩ := hm; ⟨Heap.lt_size ho, Heap.lt_size ho⟩
  keep := fun _ _ hm hk => hm.keeps fun o e => hk a (.inl rfl) o e
  notList := by decide
  notTuple := by decide
  hint := fun _ _ _ _ hm hq => hint_set (let ⟨o, ho, hex, _⟩ := hm; ⟨o, ho, hex.1⟩) hq
  iter := fun _ s hh hm => ⟨_, _, (fun _ _ hq => set_pyIter hm hg.fits hg.plain hq), set_walks hh _ a (let ⟨_, ho, _⟩ := hm; Nat.ne_of_lt (Heap.lt_size ho)) es ep t hg,
    ⟨⟨_, Heap.get?_push_size _ rfl, rfl, by unfold slotAt; split <;> rfl⟩, hm.keeps fun o e => Heap.get?_push_of_some _ e⟩⟩
variable {h₀ : Heap} {L : Addr} {m : Str → Option Value} {news : List (Addr × Obj)} {Q : Value → Shared → Prop}
/-- sorted(c) of a set of the law's lines -/
theorem sorted_set {a : Addr} {hs : List Int} (hh : A.handled = none) (F : Fr h₀ L s.heap m) (N : News h₀ L s.heap news) (hS : SetAt (ledOf w) s.heap a hs)
    (h : ∀ D vs' ns' c h' tk', Fr h₀ L h' m → News h₀ L h' ((D, PySem.W.listOf (List.toArray vs') c) :: news) → IntsAre vs' ns' → ns'.Perm hs → ns'.Pairwise (· ≤ ·) → Q (.ref D) { s with heap := h', toks := tk' }) :
    wpAny (model prog w) A (call (.builtin "sorted") [.ref a]) Q E s := by
  obtain ⟨o, es, ep, t, ho, hex, hd, hL, hm, he⟩ := hS
  obtain ⟨hpl, hled, hft, hbl⟩ := hL.ok
  have hlen := hL.len
  have hsz : es.size = hs.length := by rw [← hm, List.length_map, Array.length_toList]
  have hg : SetGood w es t := ⟨by rw [hsz]; exact hft, hpl, hled, by rw [hsz]; exact hbl⟩
  refine kdu_sorted (kdl_set (ep := ep) hg) hh F N ⟨o, ho, hex, hd⟩ (by rw [hsz, sizeLine_eq]; omega) fun D h' tk vs F' N' l1 hl hv => ?_
  have hp : (orderOf w a ep es).toList.Perm es.toList := order_perm
  have hI : IntsAre vs ((orderOf w a ep es).toList.map (·.1)) := ints_of (by rw [hl, List.length_map, hp.length_eq, Array.length_toList]) fun j v e => by
    obtain ⟨q, e1, rfl⟩ := hv j v e
    have hmem : q ∈ es.toList := hp.mem_iff.mp (by rw [← Array.getElem?_toList] at e1; exact List.mem_of_getElem? e1)
    obtain ⟨_, tok, e2⟩ := he q hmem
    refine ⟨tok, ?_⟩
    rw [e2, List.getD_eq_getElem?_getD, List.getElem?_map, Array.getElem?_toList, e1]; rfl
  refine sort_head F' N' (fun q hq => Nat.ne_of_lt (l1 q hq)) hI (by rw [hl, hsz]; omega) fun vs' ns' c h2 F2 N2 hI2 hp2 hP => h D vs' ns' c h2 tk F2 N2 hI2 (hp2.trans ?_) hP
  rw [← hm]; exact hp.map _
end
end Mine
end

-- part S1
section
open PySem PySem.W PySem.Calls PyProof.Rows PySem.W.X LCg
set_option maxRecDepth 100000
set_option maxHeartbeats 4000000
namespace Mine
section
variable {w : World} {p : Program} {loose : List Str} {mean : ExcName → Option Value} {mg mb : Str → Option Value} {G : Heap} {L fa : Addr} {m : Str → Option Value} {s : Shared} {E : Value → Shared → Prop}
/-- after the strip is made -/
def LawA (w : World) (L : Addr) (rest : List (Addr × Obj)) (_m : Str → Option Value) (nw : List (Addr × Obj)) : Prop :=
  ∃ (sd rl : Addr) (os ol : Obj) (ns : List Int) (cs : Obj), IsStrip w os rl 0 ∧ IsRow ol ns ∧ (∀ p ∈ ((rl, ol) :: (L + 1 + 1, cs) :: rest), p.1 ≠ sd) ∧ (∀ p ∈ ((L + 1 + 1, cs) :: rest), p.1 ≠ rl) ∧ cs.data = .cell (some (.ref sd)) ∧ nw = (sd, os) :: (rl, ol) :: (L + 1 + 1, cs) :: rest
theorem afresh_S1 : True := by
  w_top off
  k_with_none
  trivial
theorem lines1_S1 : True := by
  k_with "mine mem" => (first | exact List.Mem.head _ | (refine List.Mem.tail _ ?_; walk_at "mine mem"))
  k_with "mine look" => (first | assumption | exact if_pos rfl | (refine (if_neg (by decide)).trans ?_; walk_at "mine look") | rfl)
  k_with "eval Name" => ((k_here; k_dflt (refine' nameX_L ?z3F ?z3v ?_ ?z3a ?z3b; (case z3F => k_asm); (case z3a => rfl); (case z3b => rfl); (case z3v => walk_at "mine look"); k_whole)))
  trivial

theorem law_s1 {ws : Addr} {vs : List Value} {script : List Int} {w5 w4 w3 w2 w1 w0 : Obj} {x : Option Value}
    (K : Below callerA G [] G) (X : (hd.heap_39 w.params).In G) (T : Top p loose mean mg mb G) (F : Fr G L s.heap m)
    (N : News G L s.heap [(L + 1 + 1 + 1 + 1 + 1 + 1, w5), (L + 1 + 1 + 1 + 1 + 1, w4), (L + 1 + 1 + 1 + 1, w3), (L + 1 + 1 + 1, w2), (L + 1 + 1, w1), (L + 1, w0), (91, tabObj #[])]) (e5 : w1.data = .cell x)
    (l0 : @LT.lt Nat _ 91 L) (hm : m (Str.ofString "script") = some (.ref ws)) (hl : G.IsList ws vs.toArray) (hI : IntsAre vs script) (h63 : ¬ 63 < script.length) :
    wpAny (model PySem.Challenge.rw_pq0156_01.row.toRowW.prog w) (callerA.deeper (lawE L fa)) (exec (lawNth 0) (lawE L fa))
      (fun f s₂ => f = .next ∧ ExitN G L s (LawA w L [(L + 1 + 1 + 1 + 1 + 1 + 1, w5), (L + 1 + 1 + 1 + 1 + 1, w4), (L + 1 + 1 + 1 + 1, w3), (L + 1 + 1 + 1, w2), (L + 1, w0), (91, tabObj #[])]) s₂) E s := by
  revert X; k_fill; intro X
  unfold lawE
  conv in lawNth 0 => whnf
  conv in (occs := *) scopeOf lawDef => all_goals whnf
  trace_state
  k_steps
  rename_i hI8 hL8 D2 h2 tk2 o1 h3 od hdd h4 oc F4 N4 hcs
  refine ExitN.intro (by k_asm) N4 (fun p hp => ?_) ⟨_, _, _, _, _, oc, ⟨_, hdd⟩, ⟨⟨ys, ys.length, rfl, hI8⟩, ?_⟩, ?_, ?_, hcs, rfl⟩
  · simp only [List.mem_cons, List.not_mem_nil, or_false] at hp
    rcases hp with h | h | h | h | h | h | h | h | h <;> (rw [h]; walk_at "mine mem")
  · rw [List.length_map, List.length_take]; omega
  · intro p hp
    simp only [List.mem_cons, List.not_mem_nil, or_false] at hp
    rcases hp with h | h | h | h | h | h | h | h <;> (rw [h]; first | exact Ne.symm o1.2.1 | exact Nat.ne_of_lt (by dsimp only; omega))
  · intro p hp
    simp only [List.mem_cons, List.not_mem_nil, or_false] at hp
    rcases hp with h | h | h | h | h | h | h <;> (rw [h]; first | exact o1.2.2.1 | exact o1.2.2.2.1 | exact o1.2.2.2.2.1 | exact o1.2.2.2.2.2.1 | exact o1.2.2.2.2.2.2.1 | exact o1.2.2.2.2.2.2.2.1 | exact o1.2.2.2.2.2.2.2.2)
end
end Mine
end

-- part S2
section
open PySem PySem.W PySem.Calls PyProof.Rows PySem.W.X LCg
set_option maxRecDepth 100000
set_option maxHeartbeats 4000000
namespace Mine
section
variable {w : World} {p : Program} {loose : List Str} {mean : ExcName → Option Value} {mg mb : Str → Option Value} {G : Heap} {L fa : Addr} {m : Str → Option Value} {s : Shared} {E : Value → Shared → Prop}
/-- after the rows are made -/
def LawB (w : World) (L : Addr) (rl : Addr) (ol w4 w3 w2 w0 : Obj) (m : Str → Option Value) (nw : List (Addr × Obj)) : Prop :=
  ∃ (sd rd dd : Addr) (os od cs cr : Obj) (rs : List Str) (vs : List Value) (k : Int), IsStrip w os rl k ∧ 0 ≤ k ∧ k ≤ 18 ∧ StrsAre vs rs ∧ rs.length = 2 ∧ (∀ x ∈ rs, NoNl x ∧ x.length ≤ 8) ∧
    m (Str.ofString "due") = some (.ref dd) ∧ od.IsDictOf (intKind PySem.Challenge.rw_pq0156_01.row.toRowW.prog w) [] ∧ (dd == sysModules) = false ∧ cr.data = .cell (some (.ref rd)) ∧ cs.data = .cell (some (.ref sd)) ∧
    nw = (rd, lst vs) :: (dd, od) :: (L + 1 + 1 + 1 + 1 + 1 + 1, cr) :: (L + 1 + 1 + 1 + 1 + 1, w4) :: (sd, os) :: (rl, ol) :: (L + 1 + 1, cs) :: (L + 1 + 1 + 1 + 1, w3) :: (L + 1 + 1 + 1, w2) :: (L + 1, w0) :: (91, tabObj #[]) :: [] ∧ Apart nw
theorem afresh_S2 : True := by
  w_top off
  k_with_none
  trivial
theorem lines1_S2 : True := by
  k_with "mine look" => (first | assumption | exact if_pos rfl | (refine (if_neg (by decide)).trans ?_; walk_at "mine look") | rfl)
  k_with "eval Name" => ((k_here; k_dflt (refine' nameX_L ?z2F ?z2v ?_ ?z2a ?z2b; (case z2F => k_asm); (case z2a => rfl); (case z2b => rfl); (case z2v => walk_at "mine look"); k_whole)))
  k_with "mine split" => (repeat (with_reducible rename _ ∧ _ => hAnd; obtain ⟨_, _⟩ := hAnd))
  k_with "mine ne" => (first | with_reducible assumption | (refine Ne.symm ?_; with_reducible assumption) | (refine Nat.ne_of_lt ?_; with_reducible assumption) | (refine Nat.ne_of_gt ?_; with_reducible assumption) | exact up_ne 0 rfl | exact up_ne 1 rfl | exact up_ne 2 rfl | exact up_ne 3 rfl | exact up_ne 4 rfl | exact Ne.symm (up_ne 0 rfl) | exact Ne.symm (up_ne 1 rfl) | exact Ne.symm (up_ne 2 rfl) | exact Ne.symm (up_ne 3 rfl) | exact Ne.symm (up_ne 4 rfl))
  k_with "mine k_ne" => ((refine neN ?_; (try dsimp only); walk_at "mine split"; walk_at "mine ne"))
  k_with "mine k_room" => (ktr_room)
  k_with "call ref" => ((k_here; k_dflt (refine' row_at ?z7k1 ?z7k2 ?z7k3 ?z7k4 ?z7k5 ?z7k6 ?z7k7 ?z7k8 ?z7k9 ?z7k10 ?z7k11 ?z7k12 ?_; (case z7k1 => k_asm); (case z7k2 => k_asm); (case z7k3 => k_asm); (case z7k4 => k_asm); (case z7k5 => k_asm); (case z7k6 => k_updF); (case z7k8 => assumption); (case z7k9 => assumption); (case z7k7 => k_mem); (case z7k10 => first | ktr_room | decide); (case z7k11 => omega); (case z7k12 => omega); k_whole); intro _ _ _ _ _ _ _ _ _ _ _ _ _))
  k_with "CompSrc" => ((k_here; k_dflt (refine LCg.CompSrc.range (by rfl) (by k_asm) (by k_asm) (by assumption) (by first | decide | exact small_one (by l_bnd) (by l_bnd) (by l_bnd) (by l_bnd)) (by first | exact rangeSize_nat _ _ | rfl) (by first | exact Nat.le_of_ble_eq_true rfl | (rw [PySem.sizeLine_eq]; omega) | size_fits) ?_; intro _; refine rows_rest (n := 2) (fun _ _ _ _ _ _ _ _ _ _ _ _ _ _ _ _ _ _ off' _ => ?_) (fun _ _ _ _ _ _ _ _ _ _ => ?_) (by assumption)); (all_goals (try (simp only [LCg.Off3, and_true] at off')))))
  k_with "CompEnd" => ((refine LCg.CompEnd.intro (by k_asm) (by k_asm) _ (fun _ hp => hp) (by simp only [LCg.Off3, and_true]; assumption) trivial ?_))
  k_with "RowsTurn" => ((rename NoNl _ => nX; rename IsStrip _ _ _ _ => sX; rename _ ≤ 8 => eX; (refine ⟨_, _, _, _, rfl, nX, eX, ?_, ?_, sX, rfl⟩); all_goals omega))
  trivial

theorem law_s2 {sd rl : Addr} {os ol cs : Obj} {ns : List Int} {w5 w4 w3 w2 w0 : Obj} {x : Option Value}
    (K : Below callerA G [] G) (X : (hd.heap_39 w.params).In G) (T : Top p loose mean mg mb G) (F : Fr G L s.heap m)
    (N : News G L s.heap ((sd, os) :: (rl, ol) :: (L + 1 + 1, cs) :: [(L + 1 + 1 + 1 + 1 + 1 + 1, w5), (L + 1 + 1 + 1 + 1 + 1, w4), (L + 1 + 1 + 1 + 1, w3), (L + 1 + 1 + 1, w2), (L + 1, w0), (91, tabObj #[])])) (e5 : w5.data = .cell x)
    (l0 : @LT.lt Nat _ 91 L) (hS : IsStrip w os rl 0) (hR : IsRow ol ns) (hne : ∀ p ∈ ((rl, ol) :: (L + 1 + 1, cs) :: [(L + 1 + 1 + 1 + 1 + 1 + 1, w5), (L + 1 + 1 + 1 + 1 + 1, w4), (L + 1 + 1 + 1 + 1, w3), (L + 1 + 1 + 1, w2), (L + 1, w0), (91, tabObj #[])]), p.1 ≠ sd)
    (hne2 : ∀ p ∈ ((L + 1 + 1, cs) :: [(L + 1 + 1 + 1 + 1 + 1 + 1, w5), (L + 1 + 1 + 1 + 1 + 1, w4), (L + 1 + 1 + 1 + 1, w3), (L + 1 + 1 + 1, w2), (L + 1, w0), (91, tabObj #[])]), p.1 ≠ rl) (hcs : cs.data = .cell (some (.ref sd))) :
    wpAny (model PySem.Challenge.rw_pq0156_01.row.toRowW.prog w) (callerA.deeper (lawE L fa)) (exec (lawNth 1) (lawE L fa))
      (fun f s₂ => f = .next ∧ ExitN G L s (LawB w L rl ol w4 w3 w2 w0) s₂) E s := by
  revert X; k_fill; intro X
  unfold lawE
  conv in lawNth 1 => whnf
  conv in (occs := *) scopeOf lawDef => all_goals whnf
  have a1 := off_of hne
  have a2 := off_of hne2
  simp only [Off, and_true] at a1 a2
  iterate 13 (first | (k_unfold; (try dsimp only)) | walk1)
  · k_steps
  k_steps
  · trivial
  have off' := trivial
  rename_i h6 tk6 t1 u1 v1 aR aK g6 ys rs oS kS hy hl hs hk0 hk1 hS' Dr h5 tk5 o1 dd h4 od lod hsd fsd hid fid l1 Dt h3 l2 h2 h1 cr hcr h0 F0 N0
  refine ExitN.intro (by k_asm) N0 (fun p hp => ?_) ⟨_, Dr, dd, _, od, cs, cr, rs, ys, kS, hS', hk0, by omega, hy, hl, hs, if_pos rfl, hid, lod, hcr, hcs, rfl, ?_⟩
  · simp only [List.mem_cons, List.not_mem_nil, or_false] at hp ⊢
    rcases hp with h | h | h | h | h | h | h | h | h | h | h <;> simp [h]
  · simp only [Apart, Off, and_true]
    have l9 : @LT.lt Nat _ 91 (L + 1) ∧ @LT.lt Nat _ 91 (L + 1 + 1) ∧ @LT.lt Nat _ 91 (L + 1 + 1 + 1) ∧ @LT.lt Nat _ 91 (L + 1 + 1 + 1 + 1) ∧ @LT.lt Nat _ 91 (L + 1 + 1 + 1 + 1 + 1) ∧ @LT.lt Nat _ 91 (L + 1 + 1 + 1 + 1 + 1 + 1) := up_lt l0
    walk_at "mine split"
    repeat' apply And.intro
    all_goals (first | (walk_at "mine ne"; done) | trace_state)
end
end Mine
end

-- part S3
section
open PySem PySem.W PySem.Calls PyProof.Rows PySem.W.X LCg
set_option maxRecDepth 100000
set_option maxHeartbeats 4000000
namespace Mine
section
variable {w : World} {p : Program} {loose : List Str} {mean : ExcName → Option Value} {mg mb : Str → Option Value} {G : Heap} {L fa : Addr} {m : Str → Option Value} {s : Shared} {E : Value → Shared → Prop}
def JC (w : World) (L : Addr) (rs : List Str) (vs : List Value) (rd dd : Addr) (cr : Obj) (rest : List (Addr × Obj)) (i : Nat) (m : Str → Option Value) (nw : List (Addr × Obj)) : Prop :=
  ∃ (od c5 : Obj) (x5 : Option Value), c5.data = .cell x5 ∧ LamTab 91 #[] (lamPos (lawNth 2)) lamQ ((rd, lst vs) :: (dd, od) :: (L + 1 + 1 + 1 + 1 + 1 + 1, cr) :: (L + 1 + 1 + 1 + 1 + 1, c5) :: rest) nw ∧ DueIs w rs dd od i m

theorem afresh_S3 : True := by
  w_top off
  k_with_none
  trivial
theorem lines1_S3 : True := by
  k_with "mine look" => (first | assumption | exact if_pos rfl | (refine (if_neg (by decide)).trans ?_; walk_at "mine look") | rfl)
  k_with "eval Name" => ((k_here; k_dflt (refine' nameX_L ?z2F ?z2v ?_ ?z2a ?z2b; (case z2F => k_asm); (case z2a => rfl); (case z2b => rfl); (case z2v => walk_at "mine look"); k_whole)))
  k_with "mine split" => (repeat (with_reducible rename _ ∧ _ => hAnd; obtain ⟨_, _⟩ := hAnd))
  k_with "mine ne" => (first | with_reducible assumption | (refine Ne.symm ?_; with_reducible assumption) | (refine Nat.ne_of_lt ?_; with_reducible assumption) | (refine Nat.ne_of_gt ?_; with_reducible assumption) | exact up_ne 0 rfl | exact up_ne 1 rfl | exact up_ne 2 rfl | exact up_ne 3 rfl | exact up_ne 4 rfl | exact Ne.symm (up_ne 0 rfl) | exact Ne.symm (up_ne 1 rfl) | exact Ne.symm (up_ne 2 rfl) | exact Ne.symm (up_ne 3 rfl) | exact Ne.symm (up_ne 4 rfl))
  k_with "mine k_ne" => ((refine neN ?_; (try dsimp only); walk_at "mine split"; walk_at "mine ne"))
  k_with "mine k_all" => (with_reducible assumption)
  k_with "mine k_room" => (ktr_room)
  k_with "mine eq" => (first | exact eqAt_none | exact eqAt_str _ _ _ | exact eqAt_int _ _ _)
  k_with "compareOp NotEq ref ref" => ((k_here; k_dflt (refine ne_pairs (by k_asm) (by k_mem) (by k_mem) (by ke_room) (by walk_at "mine eq") (by walk_at "mine eq") ?_)))
  k_with "compareOp NotEq str str" => ((k_here; refine ne_same_str ?_))
  k_with "compareOp Eq ref str" => ((k_here; k_dflt (refine eq_pair_str (by k_asm) (by k_mem) (by ke_room) ?_)))
  k_with "call ref" => ((k_here; k_dflt (refine' read_none ?z12k0 ?z12k1 ?z12k2 ?z12k3 ?z12k4 ?z12k5 ?z12k6 ?z12k7 ?z12k8 ?_; (case z12k0 => with_reducible assumption); (case z12k1 => k_asm); (case z12k2 => k_asm); (case z12k3 => k_asm); (case z12k4 => k_asm); (case z12k5 => k_asm); (case z12k6 => first | ktr_room | decide); (case z12k7 => first | units_room | omega | decide); (case z12k8 => assumption); k_whole); intro _ _ _ _ _ _; (try k_sweep)))
  k_with "call ref" => ((k_here; k_dflt (refine' read_ok ?z13k0 ?z13k1 ?z13k2 ?z13k3 ?z13k4 ?z13k5 ?z13k6 ?z13k7 ?z13k8 ?_; (case z13k0 => with_reducible assumption); (case z13k1 => k_asm); (case z13k2 => k_asm); (case z13k3 => k_asm); (case z13k4 => k_asm); (case z13k5 => k_asm); (case z13k6 => first | ktr_room | decide); (case z13k7 => first | units_room | omega | decide); (case z13k8 => assumption); k_whole); intro _ _ _ _ _ _ _; (try k_sweep)))
  k_with "call ref" => ((k_here; k_dflt (refine' read_bad ?z14k0 ?z14k1 ?z14k2 ?z14k3 ?z14k4 ?z14k5 ?z14k6 ?z14k7 ?z14k8 ?_; (case z14k0 => with_reducible assumption); (case z14k1 => k_asm); (case z14k2 => k_asm); (case z14k3 => k_asm); (case z14k4 => k_asm); (case z14k5 => k_asm); (case z14k6 => first | ktr_room | decide); (case z14k7 => first | units_room | omega | decide); (case z14k8 => assumption); k_whole); intro _ _ _ _ _; (try k_sweep)))
  k_with "compareOp NotEq ref str" => ((k_here; k_dflt (refine ne_dict_str (by k_asm) (by k_mem) (by assumption) (by ke_room) ?_)))
  k_with "mine sub" => (first | with_reducible assumption | assumption | (refine List.Mem.tail _ ?_; walk_at "mine sub"))
  k_with "call ref" => ((k_here; k_dflt (refine' num_spec ?z17k1 ?z17k2 ?z17k3 ?z17k4 ?z17k5 ?z17k6 ?z17k7 ?z17k8 ?_ ?_ ?_; (case z17k1 => k_asm); (case z17k2 => k_asm); (case z17k3 => k_asm); (case z17k4 => k_asm); (case z17k5 => k_asm); (case z17k6 => first | ktr_room | decide); (case z17k7 => first | units_room | omega | decide); (case z17k8 => assumption))))
  trivial

theorem law_s3 {rs : List Str} {vs : List Value} {rd dd : Addr} {od cr w4 : Obj} {x : Option Value} {rest : List (Addr × Obj)}
    (K : Below callerA G [] G) (X : (hd.heap_39 w.params).In G) (T : Top p loose mean mg mb G) (C : CodeHd G 93 91) (F : Fr G L s.heap m)
    (N : News G L s.heap ((91, tabObj #[]) :: (rd, lst vs) :: (dd, od) :: (L + 1 + 1 + 1 + 1 + 1 + 1, cr) :: (L + 1 + 1 + 1 + 1 + 1, w4) :: rest)) (e4 : w4.data = .cell x)
    (hy : StrsAre vs rs) (hl : rs.length = 2) (hs : ∀ x ∈ rs, NoNl x ∧ x.length ≤ 8) (hdue : m (Str.ofString "due") = some (.ref dd)) (hod : od.IsDictOf (intKind PySem.Challenge.rw_pq0156_01.row.toRowW.prog w) [])
    (lod : (dd == sysModules) = false) (hcr : cr.data = .cell (some (.ref rd)))
    (n1 : @Ne Nat rd dd) (n2 : @Ne Nat rd (L + 1 + 1 + 1 + 1 + 1)) (n3 : @Ne Nat dd (L + 1 + 1 + 1 + 1 + 1)) (n4 : @Ne Nat dd (L + 1 + 1 + 1 + 1 + 1 + 1)) (r4 : ∀ p ∈ rest, p.1 ≠ L + 1 + 1 + 1 + 1 + 1) (rdd : ∀ p ∈ rest, p.1 ≠ dd)
    (l0 : @LT.lt Nat _ 91 L) (n5 : @Ne Nat rd 91) (n6 : @Ne Nat dd 91) (r91 : ∀ p ∈ rest, p.1 ≠ 91)
    (hE : PassesOwn (model PySem.Challenge.rw_pq0156_01.row.toRowW.prog w) (callerA.deeper (lawE L fa)) (lawE L fa) E) :
    wpAny (model PySem.Challenge.rw_pq0156_01.row.toRowW.prog w) (callerA.deeper (lawE L fa)) (exec (lawNth 2) (lawE L fa))
      (fun f s₂ => f = .next ∧ ExitN G L s (JC w L rs vs rd dd cr rest 2) s₂) E s := by
  revert X; k_fill; intro X
  revert hE
  unfold lawE
  conv in lawNth 2 => whnf
  conv in (occs := *) scopeOf lawDef => all_goals whnf
  intro hE
  refine For_turns (by k_asm) ?_ (hE := hE)
  iterate 1 walk1
  refine turns_list (oD := lst vs) rfl rfl F N (JC w L rs vs rd dd cr rest) (fun i m nw h => let ⟨_, _, _, _, e, _⟩ := h; e.mem (.head _)) ⟨od, w4, x, e4, .inl rfl, .inl ⟨[], [], hdue, hod, .nil, Nat.zero_le _, rfl⟩⟩ ?step ?done
  case done =>
    rintro h' tk m' nw F' N' hJ
    have hz : vs.toArray.size = 2 := by rw [List.size_toArray, hy.length, hl]
    rw [hz] at hJ
    exact ⟨rfl, h', tk, m', nw, rfl, F', N', hJ⟩
  case step =>
    rintro i v m₁ nw h₁ tk₁ I oI hv ⟨od, c5, x5, hc5, hT, hD⟩ hnI F3 N3
    obtain ⟨r, tr, hr, rfl⟩ := strs_get hy (by simpa using hv)
    have nI : @Ne Nat (L + 1 + 1 + 1 + 1 + 1) I := hnI _ (hT.mem (.tail _ (.tail _ (.tail _ (.head _)))))
    clear F N
    have l9 := up_lt l0
    walk1
    have nrd := hnI _ (hT.mem (.head _))
    have ndd := hnI _ (hT.mem (.tail _ (.head _)))
    have hrI : ∀ p ∈ rest, p.1 ≠ I := fun p hp => hnI p (hT.mem (.tail _ (.tail _ (.tail _ (.tail _ hp)))))
    have n6c := hnI _ (hT.mem (.tail _ (.tail _ (.head _))))
    obtain ⟨nwI, hTI, hsub⟩ := hT.cons (q := (I, oI)) hnI
    have NI : News G L h₁ nwI := fun p hp => N3 p (hsub p hp)
    have hI91 : I ≠ 91 := by
      rcases hT with rfl | ⟨_, _, _, _, rfl, _⟩
      · exact Ne.symm (hnI _ (.head _))
      · exact Ne.symm (hnI _ (.head _))
    refine store_lam F3 NI hTI rfl (Nat.ne_of_lt l9.2.2.2.2.1) (.tail (Ne.symm nI) (.tail n2 (.tail n3 (.tail (up_ne 0 rfl) (.head r4))))) hc5 ?_
    intro h2 o5 nw2 F2 N2 hT2 d5
    clear N3 hT hTI NI F3 hnI hsub
    iterate 8 (first | (k_unfold; (try dsimp only)) | walk1)
    refine lam_any (clos := [(Str.ofString "row", L + 1 + 1 + 1 + 1 + 1)]) F2 N2 T C ?hcd hT2 ?hq ?hoff ?ht ?hnf ?hd0 ?hcl ?_
    case hcd => rfl
    case hq => rfl
    case hd0 => rfl
    case hcl => rfl
    case ht => trivial
    case hnf => rfl
    case hoff => 
      intro p hp
      simp only [List.mem_cons] at hp
      rcases hp with h | h | h | h | h | h
      · rw [h]; exact hI91
      · rw [h]; exact n5
      · rw [h]; exact n6
      · rw [h]; exact Nat.ne_of_gt l9.2.2.2.2.2
      · rw [h]; exact Nat.ne_of_gt l9.2.2.2.2.1
      · exact r91 p h
    intro f c' oc cvs ct ctv h3 tk3 F3 N3 hcd hcv hO hf n7 n8
    clear F2 N2 hT2
    replace N3 := news_rot N3
    iterate 2 (first | (k_unfold; (try dsimp only)) | walk1)
    have hr8 : r.length ≤ 8 := (hs r (List.mem_of_getElem? hr)).2
    have fin : ∀ (f : Flow) (h' : Heap) (tk' : Nat) (m' : Str → Option Value) (od' : Obj) (all : List (Addr × Obj)), (f = .next ∨ f = .cont) → Fr G L h' m' → News G L h' all →
        (∀ p ∈ (I, oI) :: (91, tabObj (#[] ++ #[rawInt (lamPos (lawNth 2)).line, rawInt (lamPos (lawNth 2)).col, .ref c'])) :: (c', oc) :: (rd, lst vs) :: (dd, od') :: (L + 1 + 1 + 1 + 1 + 1 + 1, cr) :: (L + 1 + 1 + 1 + 1 + 1, o5) :: rest, p ∈ all) → DueIs w rs dd od' (i + 1) m' →
        TurnEnd G L I oI s (fun f s₂ => f = .next ∧ ExitN G L s (JC w L rs vs rd dd cr rest 2) s₂) (JC w L rs vs rd dd cr rest (i + 1)) f { s with heap := h', toks := tk' } := by
      intro f h' tk' m' od' all hf F' N' hsub hD'
      refine turn_end hf F' N' hsub (fun p hp => ?_) ⟨od', o5, _, d5, .inr ⟨c', oc, cvs, ct, rfl, hcd, hcv, hO.2⟩, hD'⟩
      simp only [List.mem_cons] at hp
      rcases hp with h | h | h | h | h | h | h
      · rw [h]; exact Ne.symm hI91
      · rw [h]; exact Ne.symm hO.1
      · rw [h]; exact nrd
      · rw [h]; exact ndd
      · rw [h]; exact n6c
      · rw [h]; exact nI
      · exact hrI p h
    k_dflt (refine heard_num (r := r) K F3 X N3 T X T ?hdp (.head _) ?hcall ?hnone ?hok ?hbad)
    case hdp => decide
    case hcall =>
      intro g' h' L' m' tk' nmH moH Q' E' B4 F4 X4 N4 T4 l4 q1 q2 q3
      clear F3 N3
      have hr20 : r.length ≤ 20 := Nat.le_trans (hs r (List.mem_of_getElem? hr)).2 (by decide)
      k_steps
      · rename numR r = NR.none => hnr
        exact q1 hnr _ _ _ _ (by assumption) (by assumption)
      · rename numR r = NR.ok _ _ => hnr
        exact q2 _ _ hnr _ _ _ _ _ (by assumption) (by assumption)
      · rename numR r = NR.bad => hnr
        rename Flown _ _ _ _ _ _ _ => R
        refine leave_on (by k_asm) (by with_reducible assumption) R rfl fun h' R => ?_
        exact q3 _ _ _ _ _ _ hnr (by assumption) R (by assumption)
    case hnone =>
      intro hn a t h4 tk4 F4 N4
      clear F3 N3
      rcases hD with ⟨kvs, d, hm, ho, hkv, hdl, hld⟩ | ⟨td, hm, hld⟩
      · k_steps
        · rename (_ != Str.ofString "") = true => hb
          exact fin _ _ _ _ od _ (.inl rfl) (by k_asm) (by assumption) (fun p hp => by walk_at "mine sub") (.inr ⟨_, if_pos rfl, by rw [loadAll_take hr hld, load_none (by simpa using hb) hn]⟩)
        · rename (_ != Str.ofString "") = false => hb
          exact fin _ _ _ _ od _ (.inl rfl) (by k_asm) (by assumption) (fun p hp => by walk_at "mine sub") (.inl ⟨kvs, d, by walk_at "mine look", ho, hkv, Nat.le_succ_of_le hdl, by rw [loadAll_take hr hld, load_blank (by simpa using hb)]⟩)
      · k_steps
        · exact fin _ _ _ _ od _ (.inl rfl) (by k_asm) (by assumption) (fun p hp => by walk_at "mine sub") (.inr ⟨_, by walk_at "mine look", load_stay hld⟩)
        · exact fin _ _ _ _ od _ (.inl rfl) (by k_asm) (by assumption) (fun p hp => by walk_at "mine sub") (.inr ⟨_, by walk_at "mine look", load_stay hld⟩)
    case hbad =>
      intro hn t h4 tk4 F4 N4
      clear F3 N3
      rcases hD with ⟨kvs, d, hm, ho, hkv, hdl, hld⟩ | ⟨td, hm, hld⟩
      · k_steps
        · rename (_ != Str.ofString "") = true => hb
          exact fin _ _ _ _ od _ (.inl rfl) (by k_asm) (by assumption) (fun p hp => by walk_at "mine sub") (.inr ⟨_, if_pos rfl, by rw [loadAll_take hr hld, load_bad (by simpa using hb) hn]⟩)
        · rename (_ != Str.ofString "") = false => hb
          exact fin _ _ _ _ od _ (.inl rfl) (by k_asm) (by assumption) (fun p hp => by walk_at "mine sub") (.inl ⟨kvs, d, by walk_at "mine look", ho, hkv, Nat.le_succ_of_le hdl, by rw [loadAll_take hr hld, load_blank (by simpa using hb)]⟩)
      · k_steps
        · exact fin _ _ _ _ od _ (.inl rfl) (by k_asm) (by assumption) (fun p hp => by walk_at "mine sub") (.inr ⟨_, by walk_at "mine look", load_stay hld⟩)
        · exact fin _ _ _ _ od _ (.inl rfl) (by k_asm) (by assumption) (fun p hp => by walk_at "mine sub") (.inr ⟨_, by walk_at "mine look", load_stay hld⟩)
    case hok =>
      intro q r' hn a t t' h4 tk4 F4 N4
      clear F3 N3
      have hrl' : r'.length ≤ 20 := Nat.le_trans (numR_len hn) (Nat.le_trans hr8 (by decide))
      rcases hD with ⟨kvs, d, hm, ho, hkv, hdl, hld⟩ | ⟨td, hm, hld⟩
      · have hkl : kvs.length ≤ sizeLine := by
          have h1 := hkv.len
          have h2 := (List.getElem?_eq_some_iff.mp hr).1
          rw [sizeLine_eq]; omega
        have U : UpdF dd od ((I, oI) :: (91, tabObj (#[] ++ #[rawInt (lamPos (lawNth 2)).line, rawInt (lamPos (lawNth 2)).col, .ref c'])) :: (c', oc) :: (rd, lst vs) :: (dd, od) :: (L + 1 + 1 + 1 + 1 + 1 + 1, cr) :: (L + 1 + 1 + 1 + 1 + 1, o5) :: rest)
            (fun o' => (I, oI) :: (91, tabObj (#[] ++ #[rawInt (lamPos (lawNth 2)).line, rawInt (lamPos (lawNth 2)).col, .ref c'])) :: (c', oc) :: (rd, lst vs) :: (dd, o') :: (L + 1 + 1 + 1 + 1 + 1 + 1, cr) :: (L + 1 + 1 + 1 + 1 + 1, o5) :: rest) :=
          .tail (Ne.symm ndd) (.tail (Ne.symm n6) (.tail (Ne.symm hO.2.2.1) (.tail n1 (.head fun p hp => by
            simp only [List.mem_cons] at hp
            rcases hp with h | h | h
            · rw [h]; exact Ne.symm n4
            · rw [h]; exact Ne.symm n3
            · exact rdd p h))))
        k_steps
        · rename (_ != Str.ofString "") = true => hb
          rename (_ == Str.ofString "") = true => hb2
          rename News _ _ _ _ => NN
          refine pop_dict (by k_asm) (fun p hp => NN p (by walk_at "mine sub")) U lod ho hkl fun v' h5 tk5 o6 F5 N5 d6 => ?_
          k_steps
          exact fin _ _ _ _ o6 _ (.inl rfl) (by k_asm) N5 (fun p hp => hp) (.inl ⟨_, _, by walk_at "mine look", d6, hkv.del _, Nat.le_trans (delL_len _ _) (Nat.le_succ_of_le hdl), by rw [loadAll_take hr hld, load_del (by simpa using hb) hn hb2]⟩)
        · rename (_ != Str.ofString "") = true => hb
          rename (_ == Str.ofString "") = false => hb2
          rename News _ _ _ _ => NN
          refine put_dict (by k_asm) (fun p hp => NN p (by walk_at "mine sub")) U ho hkl fun h5 tk5 o6 F5 N5 d6 => ?_
          k_steps
          exact fin _ _ _ _ o6 _ (.inl rfl) (by k_asm) N5 (fun p hp => hp) (.inl ⟨_, _, by walk_at "mine look", d6, hkv.put _ _ _, Nat.le_trans (putL_len _ _ _) (Nat.succ_le_succ hdl), by rw [loadAll_take hr hld, load_put (by simpa using hb) hn hb2]⟩)
        · rename (_ != Str.ofString "") = false => hb
          exact fin _ _ _ _ od _ (.inl rfl) (by k_asm) (by assumption) (fun p hp => by walk_at "mine sub") (.inl ⟨kvs, d, by walk_at "mine look", ho, hkv, Nat.le_succ_of_le hdl, by rw [loadAll_take hr hld, load_blank (by simpa using hb)]⟩)
      · k_steps
        · exact fin _ _ _ _ od _ (.inl rfl) (by k_asm) (by assumption) (fun p hp => by walk_at "mine sub") (.inr ⟨_, by walk_at "mine look", load_stay hld⟩)
        · exact fin _ _ _ _ od _ (.inl rfl) (by k_asm) (by assumption) (fun p hp => by walk_at "mine sub") (.inr ⟨_, by walk_at "mine look", load_stay hld⟩)
end
end Mine
end

-- part S4
section
open PySem PySem.W PySem.Calls PyProof.Rows PySem.W.X LCg
set_option maxRecDepth 100000
set_option maxHeartbeats 4000000
namespace Mine
section
variable {w : World} {p : Program} {loose : List Str} {mean : ExcName → Option Value} {mg mb : Str → Option Value} {G : Heap} {L fa : Addr} {m : Str → Option Value} {s : Shared} {E : Value → Shared → Prop}

theorem afresh_S4 : True := by
  w_top off
  k_with_none
  trivial
theorem lines1_S4 : True := by
  k_with "mine look" => (first | assumption | exact if_pos rfl | (refine (if_neg (by decide)).trans ?_; walk_at "mine look") | rfl)
  k_with "eval Name" => ((k_here; k_dflt (refine' nameX_L ?z2F ?z2v ?_ ?z2a ?z2b; (case z2F => k_asm); (case z2a => rfl); (case z2b => rfl); (case z2v => walk_at "mine look"); k_whole)))
  k_with "mine split" => (repeat (with_reducible rename _ ∧ _ => hAnd; obtain ⟨_, _⟩ := hAnd))
  k_with "mine ne" => (first | with_reducible assumption | (refine Ne.symm ?_; with_reducible assumption) | (refine Nat.ne_of_lt ?_; with_reducible assumption) | (refine Nat.ne_of_gt ?_; with_reducible assumption) | exact up_ne 0 rfl | exact up_ne 1 rfl | exact up_ne 2 rfl | exact up_ne 3 rfl | exact up_ne 4 rfl | exact Ne.symm (up_ne 0 rfl) | exact Ne.symm (up_ne 1 rfl) | exact Ne.symm (up_ne 2 rfl) | exact Ne.symm (up_ne 3 rfl) | exact Ne.symm (up_ne 4 rfl))
  k_with "mine k_ne" => ((refine neN ?_; (try dsimp only); walk_at "mine split"; walk_at "mine ne"))
  k_with "mine k_room" => (ktr_room)
  k_with "mine sub" => (first | with_reducible assumption | assumption | (refine List.Mem.tail _ ?_; walk_at "mine sub"))
  k_with "mine k_all" => (with_reducible assumption)
  k_with "compareOp NotEq str str" => ((k_here; refine ne_same_str ?_))
  k_with "call builtin:str.join" => ((k_here; (with_reducible show wpAny _ _ (call (Value.builtin "str.join") [Value.str _ _, Value.ref _]) _ _ _); refine join_list (by is_list) (by assumption) (by assumption) ?_; intro _ _))
  k_with "call ref" => ((k_here; k_dflt (refine' loaded_spec ?z11k1 ?z11k2 ?z11k3 ?z11k4 ?z11k5 ?z11k6 ?z11k7 ?z11k8 ?z11k9 ?z11k10 ?_ ?_; (case z11k1 => k_asm); (case z11k2 => k_asm); (case z11k3 => k_asm); (case z11k4 => k_asm); (case z11k5 => k_asm); (case z11k6 => first | ktr_room | decide); (case z11k7 => first | units_room | omega | decide); (case z11k8 => assumption); (case z11k9 => assumption); (case z11k10 => assumption))))
  trivial
section
variable {w : World} {p : Program} {loose : List Str} {mean : ExcName → Option Value} {mg mb : Str → Option Value}
  {dp un : Nat} {gd : Option (List Code)} {cn : Str} {nm : List (Str × NameKind)} {ig ic : Bool} {mo : List (Str × Const)} {a : Addr} {ccd : Value} {cl : List (Str × Addr)} {A₀ : Around} {base h₀ : Heap} {L : Addr} {m : Str → Option Value} {s : Shared} {Q E : Value → Shared → Prop}
  {news rest : List (Addr × Obj)}
/-- _law_heard of a task that loads a text -/
theorem heard_load {rs : List Str} {task : Addr} {fto : Value} {ftd : Option Addr} {fts : Array (Option Value)} {fd : FuncData}
    (B : Below A₀ base [] h₀) (F : Fr h₀ L s.heap m) (X : (hd.heap_39 w.params).In h₀) (N : News h₀ L s.heap news) (T : Top p loose mean mg mb h₀)
    (XB : (hd.heap_39 w.params).In base) (TB : Top p loose mean mg mb base) (hdp : dp + 1 < recursionLimit) (hft : (task, (⟨fto, ftd, .func fd, fts⟩ : Obj)) ∈ news)
    (hcall : ∀ (g' h' : Heap) (L' : Addr) (m' : Str → Option Value) (tk' : Nat) (nmH : List (Str × NameKind)) (moH : List (Str × Const)) (Q' E' : Value → Shared → Prop),
      Below (ktrTop dp un gd cn (fsc nm ig ic mo) L a ccd cl []) base [envX cn (fsc nm ig ic mo) L a ccd cl] g' → Fr g' L' h' m' → (hd.heap_39 w.params).In g' → News g' L' h' news → Top p loose mean mg mb g' → (∀ p ∈ news, p.1 < L') →
      (∀ di, loadAll rs = some di → ∀ d o kvs h'' tk'', o.IsDictOf (intKind PySem.Challenge.rw_pq0156_01.row.toRowW.prog w) kvs → KV kvs di → (d == sysModules) = false → Fr g' L' h'' m' → News g' L' h'' ((d, o) :: news) → Q' (.ref d) { s with heap := h'', toks := tk'' }) →
      (∀ e D oD G h'' tk'', loadAll rs = none → Fr g' L' G m' → Flown base G [envX (Str.ofString "_law_heard") (fsc nmH false false moH) L' 82 (.ref 81) [], envX cn (fsc nm ig ic mo) L a ccd cl] e D ((D, oD) :: news) h'' → TellsSN oD → E' (.ref e) { s with heap := h'', toks := tk'' }) →
      wpAny (model PySem.Challenge.rw_pq0156_01.row.toRowW.prog w) (ktrTop (dp + 1) (un + 3) gd (Str.ofString "_law_heard") (fsc nmH false false moH) L' 82 (.ref 81) [] [envX cn (fsc nm ig ic mo) L a ccd cl]) (call (.ref task) []) Q' E' { s with heap := h', toks := tk' })
    (hok : ∀ di, loadAll rs = some di → ∀ d o kvs h' tk', o.IsDictOf (intKind PySem.Challenge.rw_pq0156_01.row.toRowW.prog w) kvs → KV kvs di → (d == sysModules) = false → Fr h₀ L h' m → News h₀ L h' ((d, o) :: news) → Q (.ref d) { s with heap := h', toks := tk' })
    (hbad : loadAll rs = none → ∀ t h' tk', Fr h₀ L h' m → News h₀ L h' news → Q (.str (Str.ofString "SN") t) { s with heap := h', toks := tk' }) :
    wpAny (model PySem.Challenge.rw_pq0156_01.row.toRowW.prog w) (ktrTop dp un gd cn (fsc nm ig ic mo) L a ccd cl []) (call (.ref 82) [.ref task]) Q E s := by
  refine heard_spec (bad := loadAll rs = none) (Rel := fun v nw => ∃ di d o kvs, loadAll rs = some di ∧ v = .ref d ∧ nw = (d, o) :: news ∧ o.IsDictOf (intKind PySem.Challenge.rw_pq0156_01.row.toRowW.prog w) kvs ∧ KV kvs di ∧ (d == sysModules) = false)
    B F X N T XB TB hdp hft (fun g' h' L' m' tk' nmH moH Q' E' b1 b2 b3 b4 b5 b6 hq he => ?_) (fun v h' tk' nw hR F' N' => ?_) hbad
  · exact hcall g' h' L' m' tk' nmH moH Q' E' b1 b2 b3 b4 b5 b6 (fun di hd d o kvs h2 tk2 ho hk hm F2 N2 => hq _ _ _ _ ⟨di, d, o, kvs, hd, rfl, rfl, ho, hk, hm⟩ F2 N2) he
  · obtain ⟨di, d, o, kvs, hd, rfl, rfl, ho, hk, hm⟩ := hR
    exact hok di hd d o kvs h' tk' ho hk hm F' N'
end
theorem tab_any {P : Addr} {pos pos' : Pos} {qual : Str} {base news : List (Addr × Obj)} {h₀ h : Heap} {L : Addr} (hT : LamTab P #[] pos qual base news) (N : News h₀ L h news) (hne : (pos.line == pos'.line) = false) :
    ∃ pre, News h₀ L h ((P, tabObj pre) :: base) ∧ TriplesOk pre.toList ∧ codeAmong pos' pre.toList = none := by
  rcases hT with rfl | ⟨c, oc, vs, t, rfl, _⟩
  · exact ⟨#[], N, trivial, rfl⟩
  · refine ⟨#[] ++ #[rawInt pos.line, rawInt pos.col, .ref c], fun p hp => N p ?_, ?_, ?_⟩
    · rcases List.mem_cons.mp hp with e | hp
      · rw [e]; exact .head _
      · exact .tail _ (.tail _ hp)
    · simp [TriplesOk, rawInt]
    · have : ((pos.line : Int) == (pos'.line : Int)) = false := by
        simp only [beq_eq_false_iff_ne, ne_eq] at hne ⊢
        omega
      simp [codeAmong, rawInt, this]

theorem law_s4 {rs : List Str} {vs : List Value} {rd dd : Addr} {od cr c5 : Obj} {rest nw : List (Addr × Obj)}
    (K : Below callerA G [] G) (X : (hd.heap_39 w.params).In G) (T : Top p loose mean mg mb G) (C : CodeHd G 93 91) (F : Fr G L s.heap m) (N : News G L s.heap nw)
    (hT : LamTab 91 #[] (lamPos (lawNth 2)) lamQ ((rd, lst vs) :: (dd, od) :: (L + 1 + 1 + 1 + 1 + 1 + 1, cr) :: (L + 1 + 1 + 1 + 1 + 1, c5) :: rest) nw) (hD : DueIs w rs dd od 2 m)
    (hy : StrsAre vs rs) (hl : rs.length = 2) (hs : ∀ x ∈ rs, NoNl x ∧ x.length ≤ 8) (lod : (dd == sysModules) = false) (hcr : cr.data = .cell (some (.ref rd)))
    (l0 : @LT.lt Nat _ 91 L) (n5 : @Ne Nat rd 91) (n6 : @Ne Nat dd 91) (r91 : ∀ p ∈ rest, p.1 ≠ 91) :
    wpAny (model PySem.Challenge.rw_pq0156_01.row.toRowW.prog w) (callerA.deeper (lawE L fa)) (exec (lawNth 3) (lawE L fa))
      (fun f s₂ => f = .next ∧ ExitN G L s (fun _ nw => ∃ ps, nw = (91, tabObj ps) :: rest) s₂) E s := by
  revert X; k_fill; intro X
  unfold lawE
  conv in lawNth 3 => whnf
  conv in (occs := *) scopeOf lawDef => all_goals whnf
  have l9 := up_lt l0
  obtain ⟨pre, N1, ht, hnf⟩ := tab_any (pos' := lamPos (lawNth 3)) hT N rfl
  clear N hT
  iterate 6 (first | (k_unfold; (try dsimp only)) | walk1)
  refine lam_any (pos := lamPos (lawNth 3)) (qual := lamQ) (pre := pre) (clos := [(Str.ofString "rows", L + 1 + 1 + 1 + 1 + 1 + 1)]) F N1 T C ?hcd (.inl rfl) ?hq ?hoff ht hnf ?hd0 ?hcl ?_
  case hcd => rfl
  case hq => rfl
  case hd0 => rfl
  case hcl => rfl
  case hoff =>
    intro p hp
    simp only [List.mem_cons] at hp
    rcases hp with h | h | h | h | h
    · rw [h]; exact n5
    · rw [h]; exact n6
    · rw [h]; exact Nat.ne_of_gt l9.2.2.2.2.2
    · rw [h]; exact Nat.ne_of_gt l9.2.2.2.2.1
    · exact r91 p h
  intro f c' oc cvs ct ctv h3 tk3 F3 N3 hcd hcv hO hf n7 n8
  clear F N1
  iterate 2 (first | (k_unfold; (try dsimp only)) | walk1)
  obtain ⟨a, b, hab⟩ : ∃ a b, rs = [a, b] := by
    match rs, hl with
    | [a, b], _ => exact ⟨a, b, rfl⟩
  have ha := hs a (by rw [hab]; exact .head _)
  have hb := hs b (by rw [hab]; exact .tail _ (.head _))
  have hxs : Txt.split (Txt.join (Str.ofString "\n") rs) (Str.ofString "\n") = rs := by rw [hab]; exact split_two ha.1 hb.1
  have hxl : (Txt.join (Str.ofString "\n") rs).length ≤ 17 := by
    rw [hab, len_eq, join_two, List.length_append, List.length_cons, ← len_eq, ← len_eq]
    omega
  have hr8 : ∀ r ∈ rs, r.length ≤ 8 := fun r hr => (hs r hr).2
  have hjs : (rs.map (·.length)).sum + rs.length * (Str.ofString "\n").length ≤ 16777216 := by
    rw [hab, show (Str.ofString "\n").length = 1 from by decide]
    simp only [List.map_cons, List.map_nil, List.sum_cons, List.sum_nil, List.length_cons, List.length_nil]
    omega
  k_dflt (refine heard_load (rs := rs) K F3 X N3 T X T ?hdp (.head _) ?hcall ?hok ?hbad)
  case hdp => decide
  case hcall =>
    intro g' h' L' m' tk' nmH moH Q' E' B4 F4 X4 N4 T4 l4 q1 q2
    clear F3 N3
    k_steps
    · rename loadAll rs = some _ => hld
      exact q1 _ hld _ _ _ _ _ (by assumption) (by assumption) (by assumption) (by assumption) (by assumption)
    · rename loadAll rs = none => hld
      rename Flown _ _ _ _ _ _ _ => R
      refine leave_on (by k_asm) (by with_reducible assumption) R rfl fun h' R => ?_
      exact q2 _ _ _ _ _ _ hld (by assumption) R (by assumption)
  case hok =>
    intro di hdi d o kvs h4 tk4 ho hkv lo4 F4 N4
    clear F3 N3
    rcases hD with ⟨kvs2, d2, hm, ho2, hkv2, hdl, hld⟩ | ⟨td, hm, hld⟩
    · k_steps
      have hdd : di = d2 := by
        rw [show rs.take 2 = rs from List.take_of_length_le (by omega), hdi] at hld
        exact Option.some.inj hld
      subst hdd
      refine ne_dicts N4 (.head _) (.tail _ (.tail _ (.tail _ (.tail _ (.tail _ (.head _)))))) ho ho2 lo4 lod hkv hkv2 (by ke_room) (fun _ => rfl) ?_
      k_steps
      refine ExitN.intro F4 N4 (fun p hp => ?_) ⟨pre ++ #[rawInt (lamPos (lawNth 3)).line, rawInt (lamPos (lawNth 3)).col, .ref c'], rfl⟩
      rcases List.mem_cons.mp hp with h | hp
      · rw [h]; k_mem
      · walk_at "mine sub"
    · rw [show rs.take 2 = rs from List.take_of_length_le (by omega), hdi] at hld
      cases hld
  case hbad =>
    intro hdi t h4 tk4 F4 N4
    clear F3 N3
    rcases hD with ⟨kvs2, d2, hm, ho2, hkv2, hdl, hld⟩ | ⟨td, hm, hld⟩
    · rw [show rs.take 2 = rs from List.take_of_length_le (by omega), hdi] at hld
      cases hld
    · k_steps
      refine ExitN.intro F4 N4 (fun p hp => ?_) ⟨pre ++ #[rawInt (lamPos (lawNth 3)).line, rawInt (lamPos (lawNth 3)).col, .ref c'], rfl⟩
      rcases List.mem_cons.mp hp with h | hp
      · rw [h]; k_mem
      · walk_at "mine sub"
end
end Mine
end

-- part S5
section
open PySem PySem.W PySem.Calls PyProof.Rows PySem.W.X LCg
set_option maxRecDepth 100000
set_option maxHeartbeats 4000000
namespace Mine
section
variable {w : World} {p : Program} {loose : List Str} {mean : ExcName → Option Value} {mg mb : Str → Option Value} {G : Heap} {L fa : Addr} {m : Str → Option Value} {s : Shared} {E : Value → Shared → Prop}

theorem afresh_S5 : True := by
  w_top off
  k_with_none
  trivial
theorem lines1_S5 : True := by
  k_with "mine look" => (first | assumption | exact if_pos rfl | (refine (if_neg (by decide)).trans ?_; walk_at "mine look") | rfl)
  k_with "eval Name" => ((k_here; k_dflt (refine' nameX_L ?z2F ?z2v ?_ ?z2a ?z2b; (case z2F => k_asm); (case z2a => rfl); (case z2b => rfl); (case z2v => walk_at "mine look"); k_whole)))
  k_with "mine split" => (repeat (with_reducible rename _ ∧ _ => hAnd; obtain ⟨_, _⟩ := hAnd))
  k_with "mine ne" => (first | with_reducible assumption | (refine Ne.symm ?_; with_reducible assumption) | (refine Nat.ne_of_lt ?_; with_reducible assumption) | (refine Nat.ne_of_gt ?_; with_reducible assumption) | exact up_ne 0 rfl | exact up_ne 1 rfl | exact up_ne 2 rfl | exact up_ne 3 rfl | exact up_ne 4 rfl | exact Ne.symm (up_ne 0 rfl) | exact Ne.symm (up_ne 1 rfl) | exact Ne.symm (up_ne 2 rfl) | exact Ne.symm (up_ne 3 rfl) | exact Ne.symm (up_ne 4 rfl))
  k_with "mine k_ne" => ((refine neN ?_; (try dsimp only); walk_at "mine split"; walk_at "mine ne"))
  k_with "mine k_room" => (ktr_room)
  k_with "mine sub" => (first | with_reducible assumption | assumption | (refine List.Mem.tail _ ?_; walk_at "mine sub"))
  k_with "CompSrc" => ((k_here; k_dflt (refine LCg.CompSrc.range (by rfl) (by k_asm) (by k_asm) (by assumption) (by first | decide | exact small_one (by l_bnd) (by l_bnd) (by l_bnd) (by l_bnd)) (by first | exact rangeSize_nat _ _ | rfl) (by first | exact Nat.le_of_ble_eq_true rfl | (rw [PySem.sizeLine_eq]; omega) | size_fits) ?_; intro _; refine progs_rest (n := 3) (base := [(_, _), (_, _), (_, _), (_, _), (_, _), (_, _)]) (fun _ _ _ _ _ _ _ _ _ _ _ _ _ _ _ _ _ _ _ _ _ _ => ?_) (fun _ _ _ _ _ _ _ _ _ => ?_) (by assumption))))
  trivial
/-- after the programs are made -/
def LawD (w : World) (L : Addr) (w3 tb : Obj) (m : Str → Option Value) (nw : List (Addr × Obj)) : Prop :=
  ∃ (d1 d2 d3 : Addr) (o1 o2 o3 c1 c3 : Obj), ProgIs w d1 o1 ∧ ProgIs w d2 o2 ∧ ProgIs w d3 o3 ∧ c1.data = .cell (some (.ref d1)) ∧ c3.data = .cell (some (.ref d2)) ∧ m (Str.ofString "third") = some (.ref d3) ∧
    nw = (d1, o1) :: (d2, o2) :: (d3, o3) :: (L + 1 + 1 + 1 + 1, w3) :: (L + 1 + 1 + 1, c3) :: (L + 1, c1) :: (91, tb) :: [] ∧ Apart nw
theorem law_s5 {sd rl : Addr} {os ol cs w3 w2 w0 tb : Obj} {ns : List Int} {k : Int} {x2 x0 : Option Value}
    (K : Below callerA G [] G) (X : (hd.heap_39 w.params).In G) (T : Top p loose mean mg mb G) (F : Fr G L s.heap m)
    (N : News G L s.heap ((sd, os) :: (rl, ol) :: (L + 1 + 1, cs) :: (L + 1 + 1 + 1 + 1, w3) :: (L + 1 + 1 + 1, w2) :: (L + 1, w0) :: (91, tb) :: [])) (hcs : cs.data = .cell (some (.ref sd))) (e2 : w2.data = .cell x2) (e0 : w0.data = .cell x0)
    (l0 : @LT.lt Nat _ 91 L) (hS : IsStrip w os rl k) (hk0 : 0 ≤ k) (hk1 : k ≤ 18) (hR : IsRow ol ns) (hne : ∀ p ∈ ((rl, ol) :: (L + 1 + 1, cs) :: (L + 1 + 1 + 1 + 1, w3) :: (L + 1 + 1 + 1, w2) :: (L + 1, w0) :: (91, tb) :: []), p.1 ≠ sd) :
    wpAny (model PySem.Challenge.rw_pq0156_01.row.toRowW.prog w) (callerA.deeper (lawE L fa)) (exec (lawNth 4) (lawE L fa))
      (fun f s₂ => f = .next ∧ ExitN G L s (LawD w L w3 tb) s₂) E s := by
  revert X; k_fill; intro X
  unfold lawE
  conv in lawNth 4 => whnf
  conv in (occs := *) scopeOf lawDef => all_goals whnf
  iterate 10 (first | (k_unfold; (try dsimp only)) | walk1)
  · rename_i hh kk oS I oI C oC D mm ys ds h4 tk4 EE hlo hhi hSt hC F4 N4 off ne hdsd
    have N5 : News G L h4 ((L + 1 + 1, cs) :: (I, oI) :: (C, oC) :: (D, lst ys) :: []) := fun p hp => by
      simp only [List.mem_cons, List.not_mem_nil, or_false] at hp
      rcases hp with e | e | e | e
      · exact N4 p (by rw [e]; exact .tail _ (.tail _ (.tail _ (List.mem_append_right _ (.tail _ (.tail _ (.head _)))))))
      · exact N4 p (by rw [e]; exact .head _)
      · exact N4 p (by rw [e]; exact .tail _ (.head _))
      · exact N4 p (by rw [e]; exact .tail _ (.tail _ (.head _)))
    iterate 8 (first | (k_unfold; (try dsimp only)) | walk1)
    have os3 := LCg.Off3.mem off (sd, oS) (List.mem_append_right _ (.head _))
    k_dflt (refine program_at K F4 X N4 T (.tail (Ne.symm os3.1) (.tail (Ne.symm os3.2.1) (.tail (Ne.symm os3.2.2) (updF_append hne hdsd)))) ?hrl hSt hR ?hdp ?h0 ?h1 ?_)
    case hrl => exact .tail _ (.tail _ (.tail _ (List.mem_append_right _ (.tail _ (.head _)))))
    case hdp => decide
    case h0 => omega
    case h1 => omega
    intro d od h5 tk5 o' k' hP hd hk hk' hS5 F5 N6
    have hds : ∀ p ∈ ds ++ (sd, o') :: [(rl, ol), (L + 1 + 1, cs), (L + 1 + 1 + 1 + 1, w3), (L + 1 + 1 + 1, w2), (L + 1, w0), (91, tb)], ∃ q ∈ ds ++ (sd, oS) :: [(rl, ol), (L + 1 + 1, cs), (L + 1 + 1 + 1 + 1, w3), (L + 1 + 1 + 1, w2), (L + 1, w0), (91, tb)], p.1 = q.1 := fun p hp => by
      rcases List.mem_append.mp hp with h | h
      · exact ⟨p, List.mem_append_left _ h, rfl⟩
      · rcases List.mem_cons.mp h with h | h
        · exact ⟨(sd, oS), List.mem_append_right _ (.head _), by rw [h]⟩
        · exact ⟨p, List.mem_append_right _ (.tail _ h), rfl⟩
    try k_unfold
    refine LCg.CompEnd.intro F5 N6 ((d, od) :: (ds ++ (sd, o') :: [(rl, ol), (L + 1 + 1, cs), (L + 1 + 1 + 1 + 1, w3), (L + 1 + 1 + 1, w2), (L + 1, w0), (91, tb)])) (fun p hp => mem_rot4 hp) ⟨⟨Ne.symm (hd _ (.head _)), Ne.symm (hd _ (.tail _ (.head _))), Ne.symm (hd _ (.tail _ (.tail _ (.head _))))⟩, LCg.Off3.of fun p hp => ?_⟩ trivial
      ⟨o', d, od, k', rfl, hP, fun p hp => ?_, hk, hk', hS5, rfl⟩
    · obtain ⟨q, hq, e⟩ := hds p hp
      rw [e]; exact LCg.Off3.mem off q hq
    · obtain ⟨q, hq, e⟩ := hds p hp
      rw [e]; exact hd q (.tail _ (.tail _ (.tail _ hq)))
  rename_i hh ys ds oS kS hy hl hk0' hk1' hSt
  obtain ⟨d1, d2, d3, o1, o2, o3, rfl, rfl, p1, p2, p3, n12, n13, n23, s1, s2, s3, b1, b2, b3⟩ := progs_three hy hl
  have l9 := up_lt l0
  have f1 := off_of b1
  have f2 := off_of b2
  have f3 := off_of b3
  simp only [Off, and_true] at f1 f2 f3
  intro D h5 tk5 F5 N5 o5
  have N6 : News G L h5 ((D, lst [.ref d1, .ref d2, .ref d3]) :: (d3, o3) :: (d2, o2) :: (d1, o1) :: (L + 1 + 1 + 1 + 1, w3) :: (L + 1 + 1 + 1, w2) :: (L + 1, w0) :: (91, tb) :: []) := fun p hp => by
    simp only [List.mem_cons, List.not_mem_nil, or_false] at hp
    rcases hp with h | h | h | h | h | h | h | h <;> exact N5 p (by rw [h]; k_mem)
  simp only [LCg.Off1, and_true, List.cons_append, List.nil_append] at o5
  clear N5 hy hl b1 b2 b3
  k_steps
  · trivial
  rename_i c1 hc1 h8 c3 hc3 h7 F7 N7
  refine ExitN.intro F7 N7 (fun p hp => ?_) ⟨d1, d2, d3, o1, o2, o3, c1, c3, p1, p2, p3, hc1, hc3, if_pos rfl, rfl, ?_⟩
  · simp only [List.mem_cons, List.not_mem_nil, or_false] at hp
    rcases hp with h | h | h | h | h | h | h <;> (rw [h]; k_mem)
  · simp only [Apart, Off, and_true]
    walk_at "mine split"
    repeat' apply And.intro
    all_goals walk_at "mine ne"
end
end Mine
end

-- part S6
section
open PySem PySem.W PySem.Calls PyProof.Rows PySem.W.X LCg
set_option maxRecDepth 100000
set_option maxHeartbeats 4000000
namespace Mine
section
variable {w : World} {p : Program} {loose : List Str} {mean : ExcName → Option Value} {mg mb : Str → Option Value} {G : Heap} {L fa : Addr} {m : Str → Option Value} {s : Shared} {E : Value → Shared → Prop}

theorem afresh_S6 : True := by
  w_top off
  k_with_none
  trivial
theorem lines1_S6 : True := by
  k_with "mine look" => (first | assumption | exact if_pos rfl | (refine (if_neg (by decide)).trans ?_; walk_at "mine look") | rfl)
  k_with "eval Name" => ((k_here; k_dflt (refine' nameX_L ?z2F ?z2v ?_ ?z2a ?z2b; (case z2F => k_asm); (case z2a => rfl); (case z2b => rfl); (case z2v => walk_at "mine look"); k_whole)))
  k_with "mine split" => (repeat (with_reducible rename _ ∧ _ => hAnd; obtain ⟨_, _⟩ := hAnd))
  k_with "mine ne" => (first | with_reducible assumption | (refine Ne.symm ?_; with_reducible assumption) | (refine Nat.ne_of_lt ?_; with_reducible assumption) | (refine Nat.ne_of_gt ?_; with_reducible assumption) | exact up_ne 0 rfl | exact up_ne 1 rfl | exact up_ne 2 rfl | exact up_ne 3 rfl | exact up_ne 4 rfl | exact Ne.symm (up_ne 0 rfl) | exact Ne.symm (up_ne 1 rfl) | exact Ne.symm (up_ne 2 rfl) | exact Ne.symm (up_ne 3 rfl) | exact Ne.symm (up_ne 4 rfl))
  k_with "mine k_ne" => ((refine neN ?_; (try dsimp only); walk_at "mine split"; walk_at "mine ne"))
  k_with "mine k_room" => (ktr_room)
  k_with "mine sub" => (first | with_reducible assumption | assumption | (refine List.Mem.tail _ ?_; walk_at "mine sub"))
  k_with "call type:dict" => ((k_here; k_dflt (refine' copy_dict ?z8F ?z8N ?z8B ?z8m ?z8l ?z8d ?z8z ?_; (case z8F => k_asm); (case z8N => k_asm); (case z8B => exact Top.nolimit (by k_asm)); (case z8m => k_mem); (case z8l => assumption); (case z8d => assumption); (case z8z => (rw [sizeLine_eq]; omega)); k_whole); intro _ _ _ _ _ l1 _ _; (try k_lt l1); (try k_sweep)))
  trivial
/-- after the copies are kept -/
def LawF (w : World) (k1 k2 k3 : List (Int × Value)) (rest : List (Addr × Obj)) (L d3 : Addr) (m : Str → Option Value) (nw : List (Addr × Obj)) : Prop :=
  ∃ (kd a1 a2 a3 : Addr) (q1 q2 q3 : Obj), q1.IsDictOf (intKind PySem.Challenge.rw_pq0156_01.row.toRowW.prog w) k1 ∧ q2.IsDictOf (intKind PySem.Challenge.rw_pq0156_01.row.toRowW.prog w) k2 ∧ q3.IsDictOf (intKind PySem.Challenge.rw_pq0156_01.row.toRowW.prog w) k3 ∧
    (a1 == sysModules) = false ∧ (a2 == sysModules) = false ∧ (a3 == sysModules) = false ∧ m (Str.ofString "kept") = some (.ref kd) ∧ m (Str.ofString "third") = some (.ref d3) ∧
    @Ne Nat kd (L + 1 + 1 + 1 + 1) ∧ @Ne Nat a1 (L + 1 + 1 + 1 + 1) ∧ @Ne Nat a2 (L + 1 + 1 + 1 + 1) ∧ @Ne Nat a3 (L + 1 + 1 + 1 + 1) ∧
    nw = (kd, PySem.W.listOf #[.ref a1, .ref a2, .ref a3] 0) :: (a3, q3) :: (a2, q2) :: (a1, q1) :: rest
theorem law_s6 {d1 d2 d3 : Addr} {o1 o2 o3 w3 c3 c1 tb : Obj} {k1 k2 k3 : List (Int × Value)}
    (K : Below callerA G [] G) (X : (hd.heap_39 w.params).In G) (T : Top p loose mean mg mb G) (F : Fr G L s.heap m)
    (N : News G L s.heap ((d1, o1) :: (d2, o2) :: (d3, o3) :: (L + 1 + 1 + 1 + 1, w3) :: (L + 1 + 1 + 1, c3) :: (L + 1, c1) :: (91, tb) :: []))
    (i1 : o1.IsDictOf (intKind PySem.Challenge.rw_pq0156_01.row.toRowW.prog w) k1) (i2 : o2.IsDictOf (intKind PySem.Challenge.rw_pq0156_01.row.toRowW.prog w) k2) (i3 : o3.IsDictOf (intKind PySem.Challenge.rw_pq0156_01.row.toRowW.prog w) k3)
    (z1 : k1.length ≤ 4) (z2 : k2.length ≤ 4) (z3 : k3.length ≤ 4) (m1 : (d1 == sysModules) = false) (m2 : (d2 == sysModules) = false) (m3 : (d3 == sysModules) = false)
    (e1 : c1.data = .cell (some (.ref d1))) (e3 : c3.data = .cell (some (.ref d2))) (ht : m (Str.ofString "third") = some (.ref d3)) :
    wpAny (model PySem.Challenge.rw_pq0156_01.row.toRowW.prog w) (callerA.deeper (lawE L fa)) (exec (lawNth 5) (lawE L fa))
      (fun f s₂ => f = .next ∧ ExitN G L s (LawF w k1 k2 k3 ((d1, o1) :: (d2, o2) :: (d3, o3) :: (L + 1 + 1 + 1 + 1, w3) :: (L + 1 + 1 + 1, c3) :: (L + 1, c1) :: (91, tb) :: []) L d3) s₂) E s := by
  revert X; k_fill; intro X
  unfold lawE
  conv in lawNth 5 => whnf
  conv in (occs := *) scopeOf lawDef => all_goals whnf
  k_steps
  · trivial
  have l1 := trivial
  rename_i a1 h1 q1 lo1 hd1 l1 a2 h2 q2 lo2 hd2 l2 a3 h3 q3 lo3 hd3 l3 kd h4 l4 h5 F5 N5
  refine ExitN.intro F5 N5 (fun p hp => hp) ⟨kd, a1, a2, a3, q1, q2, q3, hd1, hd2, hd3, lo1, lo2, lo3, if_pos rfl, by walk_at "mine look", ?_, ?_, ?_, ?_, rfl⟩
  all_goals (walk_at "mine split"; walk_at "mine ne")
end
end Mine
end

-- part S7
section
open PySem PySem.W PySem.Calls PyProof.Rows PySem.W.X LCg
set_option maxRecDepth 100000
set_option maxHeartbeats 4000000
namespace Mine
section
variable {w : World} {p : Program} {loose : List Str} {mean : ExcName → Option Value} {mg mb : Str → Option Value} {G : Heap} {L fa : Addr} {m : Str → Option Value} {s : Shared} {E : Value → Shared → Prop}

theorem afresh_S7 : True := by
  w_top off
  k_with_none
  trivial
theorem lines1_S7 : True := by
  k_with "mine look" => (first | assumption | exact if_pos rfl | (refine (if_neg (by decide)).trans ?_; walk_at "mine look") | rfl)
  k_with "eval Name" => ((k_here; k_dflt (refine' nameX_L ?z2F ?z2v ?_ ?z2a ?z2b; (case z2F => k_asm); (case z2a => rfl); (case z2b => rfl); (case z2v => walk_at "mine look"); k_whole)))
  k_with "mine split" => (repeat (with_reducible rename _ ∧ _ => hAnd; obtain ⟨_, _⟩ := hAnd))
  k_with "mine ne" => (first | with_reducible assumption | (refine Ne.symm ?_; with_reducible assumption) | (refine Nat.ne_of_lt ?_; with_reducible assumption) | (refine Nat.ne_of_gt ?_; with_reducible assumption) | exact up_ne 0 rfl | exact up_ne 1 rfl | exact up_ne 2 rfl | exact up_ne 3 rfl | exact up_ne 4 rfl | exact Ne.symm (up_ne 0 rfl) | exact Ne.symm (up_ne 1 rfl) | exact Ne.symm (up_ne 2 rfl) | exact Ne.symm (up_ne 3 rfl) | exact Ne.symm (up_ne 4 rfl))
  k_with "mine k_ne" => ((refine neN ?_; (try dsimp only); walk_at "mine split"; walk_at "mine ne"))
  k_with "mine k_room" => (ktr_room)
  k_with "mine sub" => (first | with_reducible assumption | assumption | (refine List.Mem.tail _ ?_; walk_at "mine sub"))
  k_with "call ref" => ((k_here; k_dflt (refine' merged_spec ?z8k1 ?z8k2 ?z8k3 ?z8k4 ?z8k5 ?z8k6 ?z8hp ?z8hq ?z8lp ?z8lq ?z8op ?z8oq ?z8vp ?z8vq ?z8zp ?z8zq ?_; (case z8k1 => k_asm); (case z8k2 => k_asm); (case z8k3 => k_asm); (case z8k4 => k_asm); (case z8k5 => k_asm); (case z8k6 => first | ktr_room | decide); (case z8hp => k_mem); (case z8hq => k_mem); (case z8lp => assumption); (case z8lq => assumption); (case z8op => assumption); (case z8oq => assumption); (case z8vp => assumption); (case z8vq => assumption); (case z8zp => omega); (case z8zq => omega); k_whole); intro _ _ _ _ _ _ _ _ _ ne' _ _; (replace ne' := off_of ne'); (simp only [Off, and_true] at ne'); (try k_sweep)))
  trivial
theorem law_s7 {d1 d2 : Addr} {o1 o2 w3 c3 c1 : Obj} {k1 k2 : List (Int × Value)} {v1 v2 : List (Int × Str)} {x3 : Option Value} {kd a1 a2 a3 d3 : Addr} {okd q1 q2 q3 o3 tb : Obj} (l0 : @LT.lt Nat _ 91 L)
    (K : Below callerA G [] G) (X : (hd.heap_39 w.params).In G) (T : Top p loose mean mg mb G) (F : Fr G L s.heap m)
    (N : News G L s.heap ((kd, okd) :: (a3, q3) :: (a2, q2) :: (a1, q1) :: (d1, o1) :: (d2, o2) :: (d3, o3) :: (L + 1 + 1 + 1 + 1, w3) :: (L + 1 + 1 + 1, c3) :: (L + 1, c1) :: (91, tb) :: []))
    (i1 : o1.IsDictOf (intKind PySem.Challenge.rw_pq0156_01.row.toRowW.prog w) k1) (i2 : o2.IsDictOf (intKind PySem.Challenge.rw_pq0156_01.row.toRowW.prog w) k2)
    (t1 : KV k1 v1) (t2 : KV k2 v2) (z1 : k1.length ≤ 4) (z2 : k2.length ≤ 4) (m1 : (d1 == sysModules) = false) (m2 : (d2 == sysModules) = false)
    (n1 : @Ne Nat kd (L + 1 + 1 + 1 + 1)) (n2 : @Ne Nat a3 (L + 1 + 1 + 1 + 1)) (n3 : @Ne Nat a2 (L + 1 + 1 + 1 + 1)) (n4 : @Ne Nat a1 (L + 1 + 1 + 1 + 1)) (n5 : @Ne Nat d1 (L + 1 + 1 + 1 + 1)) (n6 : @Ne Nat d2 (L + 1 + 1 + 1 + 1)) (n7 : @Ne Nat d3 (L + 1 + 1 + 1 + 1))
    (e1 : c1.data = .cell (some (.ref d1))) (e3 : c3.data = .cell (some (.ref d2))) (e4 : w3.data = .cell x3) :
    wpAny (model PySem.Challenge.rw_pq0156_01.row.toRowW.prog w) (callerA.deeper (lawE L fa)) (exec (lawNth 6) (lawE L fa))
      (fun f s₂ => f = .next ∧ ExitN G L s (fun m' nw => m' = m ∧ ∃ (bd : Addr) (ob cb : Obj) (kb : List (Int × Value)), ob.IsDictOf (intKind PySem.Challenge.rw_pq0156_01.row.toRowW.prog w) kb ∧ KV kb (merL v1 v2) ∧ kb.length ≤ 8 ∧ (bd == sysModules) = false ∧ cb.data = .cell (some (.ref bd)) ∧
        nw = (bd, ob) :: (kd, okd) :: (a3, q3) :: (a2, q2) :: (a1, q1) :: (d1, o1) :: (d2, o2) :: (d3, o3) :: (L + 1 + 1 + 1 + 1, cb) :: (L + 1 + 1 + 1, c3) :: (L + 1, c1) :: (91, tb) :: []) s₂) E s := by
  revert X; k_fill; intro X
  unfold lawE
  conv in lawNth 6 => whnf
  conv in (occs := *) scopeOf lawDef => all_goals whnf
  have l9 := up_lt l0
  k_steps
  · trivial
  have ne' := trivial
  rename_i bd ob kb h1 tk1 hd hv hz lo ne h2 cb F2 N2 hcb
  exact ExitN.intro F2 N2 (fun p hp => hp) ⟨rfl, bd, ob, cb, kb, hd, hv, by omega, lo, hcb, rfl⟩
end
end Mine
end

-- part S8
section
open PySem PySem.W PySem.Calls PyProof.Rows PySem.W.X LCg
set_option maxRecDepth 100000
set_option maxHeartbeats 4000000
namespace Mine
theorem keys_mer {d e : List (Int × Str)} (he : NK e) (k : Int) : k ∈ (merL d e).map (·.1) ↔ k ∈ d.map (·.1) ∨ k ∈ e.map (·.1) := by
  have h1 := look_none (d := merL d e) (k := k)
  have h2 := look_none (d := d) (k := k)
  have h3 := look_none (d := e) (k := k)
  rw [look_mer d he] at h1
  constructor
  · intro hm
    apply Classical.byContradiction
    intro q
    have q1 : k ∉ d.map (·.1) := fun z => q (.inl z)
    have q2 : k ∉ e.map (·.1) := fun z => q (.inr z)
    rw [h3.mpr q2, h2.mpr q1] at h1
    exact h1.mp rfl hm
  · intro hm
    apply Classical.byContradiction
    intro q
    have e1 := h1.mpr q
    cases hl : look e k with
    | some r => rw [hl] at e1; cases e1
    | none =>
      rw [hl] at e1
      rcases hm with z | z
      · exact h2.mp e1 z
      · exact h3.mp hl z
theorem sorted_same {a b x y : List Int} (ha : a.Perm x) (hb : b.Perm y) (pa : a.Pairwise (· ≤ ·)) (pb : b.Pairwise (· ≤ ·)) (nx : x.Nodup) (ny : y.Nodup) (h : ∀ k, k ∈ x ↔ k ∈ y) : a = b :=
  lks_uniq (ha.trans (((List.perm_ext_iff_of_nodup nx ny).mpr h).trans hb.symm)) pa pb
section
variable {w : World} {p : Program} {loose : List Str} {mean : ExcName → Option Value} {mg mb : Str → Option Value} {G : Heap} {L fa : Addr} {m : Str → Option Value} {s : Shared} {E : Value → Shared → Prop}

theorem afresh_S8 : True := by
  w_top off
  k_with_none
  trivial
theorem lines1_S8 : True := by
  k_with "mine look" => (first | assumption | exact if_pos rfl | (refine (if_neg (by decide)).trans ?_; walk_at "mine look") | rfl)
  k_with "eval Name" => ((k_here; k_dflt (refine' nameX_L ?z2F ?z2v ?_ ?z2a ?z2b; (case z2F => k_asm); (case z2a => rfl); (case z2b => rfl); (case z2v => walk_at "mine look"); k_whole)))
  k_with "mine split" => (repeat (with_reducible rename _ ∧ _ => hAnd; obtain ⟨_, _⟩ := hAnd))
  k_with "mine ne" => (first | with_reducible assumption | (refine Ne.symm ?_; with_reducible assumption) | (refine Nat.ne_of_lt ?_; with_reducible assumption) | (refine Nat.ne_of_gt ?_; with_reducible assumption) | exact up_ne 0 rfl | exact up_ne 1 rfl | exact up_ne 2 rfl | exact up_ne 3 rfl | exact up_ne 4 rfl | exact Ne.symm (up_ne 0 rfl) | exact Ne.symm (up_ne 1 rfl) | exact Ne.symm (up_ne 2 rfl) | exact Ne.symm (up_ne 3 rfl) | exact Ne.symm (up_ne 4 rfl))
  k_with "mine k_ne" => ((refine neN ?_; (try dsimp only); walk_at "mine split"; walk_at "mine ne"))
  k_with "mine k_room" => (ktr_room)
  k_with "mine sub" => (first | with_reducible assumption | assumption | (refine List.Mem.tail _ ?_; walk_at "mine sub"))
  k_with "call ref" => ((k_here; k_dflt (refine' merged_spec ?z8k1 ?z8k2 ?z8k3 ?z8k4 ?z8k5 ?z8k6 ?z8hp ?z8hq ?z8lp ?z8lq ?z8op ?z8oq ?z8vp ?z8vq ?z8zp ?z8zq ?_; (case z8k1 => k_asm); (case z8k2 => k_asm); (case z8k3 => k_asm); (case z8k4 => k_asm); (case z8k5 => k_asm); (case z8k6 => first | ktr_room | decide); (case z8hp => k_mem); (case z8hq => k_mem); (case z8lp => assumption); (case z8lq => assumption); (case z8op => assumption); (case z8oq => assumption); (case z8vp => first | assumption | exact KV.nil); (case z8vq => first | assumption | exact KV.nil); (case z8zp => first | omega | (simp only [List.length_nil]; omega)); (case z8zq => first | omega | (simp only [List.length_nil]; omega)); k_whole); intro _ _ _ _ _ _ _ _ _ ne' _ _; (replace ne' := off_of ne'); (simp only [Off, and_true] at ne'); (try k_sweep)))
  k_with "compareOp NotEq ref ref" => ((k_here; k_dflt (refine ne_dicts (by k_asm) (by k_mem) (by k_mem) (by assumption) (by assumption) (by assumption) (by assumption) (by assumption) (by assumption) (by ke_room) (by first | exact mer_twice (by assumption) | exact mer_nil_l (by assumption) | exact mer_assoc (by assumption) (by assumption) | exact fun _ => rfl) ?_)))
  k_with "call builtin:sorted" => ((k_here; k_dflt (refine' sorted_dict ?z10a ?z10b ?z10c ?z10d ?z10e ?z10f ?z10z ?_; (case z10a => with_unfolding_all rfl); (case z10b => k_asm); (case z10c => k_asm); (case z10d => k_mem); (case z10e => assumption); (case z10f => assumption); (case z10z => omega); k_whole); intro _ _ _ _ _ _ _ _ _ _ _))
  k_with "call type:list" => ((k_here; k_dflt (refine' list_dict ?z11a ?z11b ?z11c ?z11d ?z11e ?z11f ?z11z ?_; (case z11a => with_unfolding_all rfl); (case z11b => k_asm); (case z11c => k_asm); (case z11d => k_mem); (case z11e => assumption); (case z11f => assumption); (case z11z => omega); k_whole); intro _ _ _ _ _ _ _ l1 _; (try k_lt l1)))
  k_with "binaryOp Add ref ref" => ((k_here; k_dflt (refine' kmk_add_ints ?z12F ?z12N ?z12a ?z12b ?z12i ?z12j ?_ ?z12z; (case z12F => k_asm); (case z12N => k_asm); (case z12a => exact ⟨_, News.get (by k_asm) (by k_mem), rfl, _, rfl⟩); (case z12b => exact ⟨_, News.get (by k_asm) (by k_mem), rfl, _, rfl⟩); (case z12i => assumption); (case z12j => assumption); (case z12z => (rw [List.length_map, List.length_map, sizeLine_eq]; omega)); k_whole); intro _ _ _ _ _ l1 _; (try k_lt l1)))
  trivial
theorem law_s8 {bd d1 d2 d3 kd a1 a2 a3 : Addr} {ob o1 o2 o3 okd q1 q2 q3 cb c3 c1 tB : Obj} {kb k1 k2 k3 : List (Int × Value)} {v1 v2 v3 : List (Int × Str)}
    (K : Below callerA G [] G) (X : (hd.heap_39 w.params).In G) (T : Top p loose mean mg mb G) (F : Fr G L s.heap m)
    (N : News G L s.heap ((bd, ob) :: (kd, okd) :: (a3, q3) :: (a2, q2) :: (a1, q1) :: (d1, o1) :: (d2, o2) :: (d3, o3) :: (L + 1 + 1 + 1 + 1, cb) :: (L + 1 + 1 + 1, c3) :: (L + 1, c1) :: (91, tB) :: []))
    (ib : ob.IsDictOf (intKind PySem.Challenge.rw_pq0156_01.row.toRowW.prog w) kb) (i1 : o1.IsDictOf (intKind PySem.Challenge.rw_pq0156_01.row.toRowW.prog w) k1) (i2 : o2.IsDictOf (intKind PySem.Challenge.rw_pq0156_01.row.toRowW.prog w) k2) (i3 : o3.IsDictOf (intKind PySem.Challenge.rw_pq0156_01.row.toRowW.prog w) k3)
    (tb : KV kb (merL v1 v2)) (t1 : KV k1 v1) (t2 : KV k2 v2) (t3 : KV k3 v3) (zb : kb.length ≤ 8) (z1 : k1.length ≤ 4) (z2 : k2.length ≤ 4) (z3 : k3.length ≤ 4) (mb' : (bd == sysModules) = false) (m1 : (d1 == sysModules) = false) (m2 : (d2 == sysModules) = false) (m3 : (d3 == sysModules) = false)
    (e1 : c1.data = .cell (some (.ref d1))) (e3 : c3.data = .cell (some (.ref d2))) (e4 : cb.data = .cell (some (.ref bd))) (hv1 : ∀ kv ∈ v1, kv.1 ∈ KS) (hv2 : ∀ kv ∈ v2, kv.1 ∈ KS) (hthird : m (Str.ofString "third") = some (.ref d3)) :
    wpAny (model PySem.Challenge.rw_pq0156_01.row.toRowW.prog w) (callerA.deeper (lawE L fa)) (exec (lawNth 7) (lawE L fa))
      (fun f s₂ => f = .next ∧ ExitN G L s (fun m' nw => m' = m ∧ nw = (bd, ob) :: (kd, okd) :: (a3, q3) :: (a2, q2) :: (a1, q1) :: (d1, o1) :: (d2, o2) :: (d3, o3) :: (L + 1 + 1 + 1 + 1, cb) :: (L + 1 + 1 + 1, c3) :: (L + 1, c1) :: (91, tB) :: []) s₂) E s := by
  revert X; k_fill; intro X
  unfold lawE
  conv in lawNth 7 => whnf
  conv in (occs := *) scopeOf lawDef => all_goals whnf
  have nk1 := nk_of i1 t1
  have nk2 := nk_of i2 t2
  have nkb := nk_of ib tb
  k_steps
  have ne' := trivial
  have l1 := trivial
  rename_i D3 u2 n2 c2 h3 t2' F3 N3 iS pS oS D2 u1 cc1 h2 t1' F2 N2 iL1 l2 D1 u0 cc0 h1 t0 F1 N1 iL2 l1 D0 ws h0 F0 N0 hI l0
  have hlist : h0.IsList D0 ws.toArray := ⟨_, N0.get (.head _), rfl, _, rfl⟩
  have hKS : ∀ x ∈ k1.map (·.1) ++ k2.map (·.1), x ∈ KS := fun x hx => by
    rw [t1.keys, t2.keys] at hx
    rcases List.mem_append.mp hx with hx | hx
    · obtain ⟨kv, hkv, rfl⟩ := List.mem_map.mp hx; exact hv1 kv hkv
    · obtain ⟨kv, hkv, rfl⟩ := List.mem_map.mp hx; exact hv2 kv hkv
  refine call_set_KS (by with_unfolding_all rfl) hlist hI hKS fun h5 tk5 hs hS hn hy hk => ?_
  have hk5 : ∀ b o, h0.get? b = some o → h5.get? b = some o := fun b o e => hk b o (Heap.lt_size e) e
  have F5 := F0.keeps hk5
  have N5 := N0.grown hk5
  iterate 1 (first | (k_unfold; (try dsimp only)) | walk1)
  refine sorted_set (by with_unfolding_all rfl) F5 N5 hS fun D6 u6 n6 c6 h6 t6 F6 N6 i6 p6 o6 => ?_
  have hA : h6.IsList D3 u2.toArray := ⟨_, N6.get (by k_mem), rfl, _, rfl⟩
  have hB : h6.IsList D6 u6.toArray := ⟨_, N6.get (.head _), rfl, _, rfl⟩
  refine ke_ne_ints hA hB iS i6 (by ke_room) ?_
  have he : n2 = n6 := sorted_same pS p6 oS o6 (by rw [tb.keys]; exact nkb) hn fun k => by
    rw [tb.keys, keys_mer nk2, hy, List.mem_append, t1.keys, t2.keys]
  rw [he, decide_eq_true rfl]
  clear F0 N0 F1 N1 F2 N2 F3 N3 F5 N5
  k_steps
  exact ExitN.intro F6 N6 (fun p hp => by walk_at "mine sub") ⟨rfl, rfl⟩
end
end Mine
end

-- part S9
section
open PySem PySem.W PySem.Calls PyProof.Rows PySem.W.X LCg LCt
set_option maxRecDepth 100000
set_option maxHeartbeats 4000000
namespace Mine
section
variable {w : World} {p : Program} {loose : List Str} {mean : ExcName → Option Value} {mg mb : Str → Option Value} {G : Heap} {L fa : Addr} {m : Str → Option Value} {s : Shared} {E : Value → Shared → Prop}

theorem afresh_S9 : True := by
  w_top off
  k_with_none
  trivial
theorem lines1_S9 : True := by
  k_with "mine look" => (first | assumption | exact if_pos rfl | (refine (if_neg (by decide)).trans ?_; walk_at "mine look") | rfl)
  k_with "eval Name" => ((k_here; k_dflt (refine' nameX_L ?z2F ?z2v ?_ ?z2a ?z2b; (case z2F => k_asm); (case z2a => rfl); (case z2b => rfl); (case z2v => walk_at "mine look"); k_whole)))
  k_with "mine split" => (repeat (with_reducible rename _ ∧ _ => hAnd; obtain ⟨_, _⟩ := hAnd))
  k_with "mine ne" => (first | with_reducible assumption | (refine Ne.symm ?_; with_reducible assumption) | (refine Nat.ne_of_lt ?_; with_reducible assumption) | (refine Nat.ne_of_gt ?_; with_reducible assumption) | exact up_ne 0 rfl | exact up_ne 1 rfl | exact up_ne 2 rfl | exact up_ne 3 rfl | exact up_ne 4 rfl | exact Ne.symm (up_ne 0 rfl) | exact Ne.symm (up_ne 1 rfl) | exact Ne.symm (up_ne 2 rfl) | exact Ne.symm (up_ne 3 rfl) | exact Ne.symm (up_ne 4 rfl))
  k_with "mine k_ne" => ((refine neN ?_; (try dsimp only); walk_at "mine split"; walk_at "mine ne"))
  k_with "mine k_room" => (ktr_room)
  k_with "mine sub" => (first | with_reducible assumption | assumption | (refine List.Mem.tail _ ?_; walk_at "mine sub"))
  k_with "call ref" => ((k_here; k_dflt (refine' merged_spec ?z8k1 ?z8k2 ?z8k3 ?z8k4 ?z8k5 ?z8k6 ?z8hp ?z8hq ?z8lp ?z8lq ?z8op ?z8oq ?z8vp ?z8vq ?z8zp ?z8zq ?_; (case z8k1 => k_asm); (case z8k2 => k_asm); (case z8k3 => k_asm); (case z8k4 => k_asm); (case z8k5 => k_asm); (case z8k6 => first | ktr_room | decide); (case z8hp => k_mem); (case z8hq => k_mem); (case z8lp => assumption); (case z8lq => assumption); (case z8op => assumption); (case z8oq => assumption); (case z8vp => first | assumption | exact KV.nil); (case z8vq => first | assumption | exact KV.nil); (case z8zp => first | omega | (simp only [List.length_nil]; omega)); (case z8zq => first | omega | (simp only [List.length_nil]; omega)); k_whole); intro _ _ _ _ _ _ _ _ _ ne' _ _; (replace ne' := off_of ne'); (simp only [Off, and_true] at ne'); (try k_sweep)))
  k_with "compareOp NotEq ref ref" => ((k_here; k_dflt (refine ne_dicts (by k_asm) (by k_mem) (by k_mem) (by assumption) (by assumption) (by assumption) (by assumption) (by assumption) (by assumption) (by ke_room) (by first | exact mer_twice (by assumption) | exact mer_nil_l (by assumption) | exact mer_assoc (by assumption) (by assumption) | exact fun _ => rfl) ?_)))
  k_with "subscriptTail" => (((with_reducible show wpAny _ _ (subscriptTail _ _ (Value.ref _) (Value.int _ _)) _ _ _); with_unfolding_all refine item_dict (knd := intKind _ _) (by k_asm) (by k_mem) (by assumption) (intKind_is _ _ _ _) (by assumption) ?_ (by with_unfolding_all rfl) (by intro _; with_unfolding_all rfl)))
  k_with "compareOp In int ref" => ((k_here; k_dflt (refine in_dict_is (by k_asm) (by k_mem) (by assumption) (by assumption) (by assumption) ?_)))
  k_with "compareOp NotEq str str" => ((k_here; refine ne_same_str ?_))
  trivial
theorem law_s9 {bd d1 d2 d3 kd a1 a2 a3 : Addr} {ob o1 o2 o3 okd q1 q2 q3 cb c3 c1 tB : Obj} {kb k1 k2 k3 : List (Int × Value)} {v1 v2 v3 : List (Int × Str)}
    (K : Below callerA G [] G) (X : (hd.heap_39 w.params).In G) (T : Top p loose mean mg mb G) (F : Fr G L s.heap m)
    (N : News G L s.heap ((bd, ob) :: (kd, okd) :: (a3, q3) :: (a2, q2) :: (a1, q1) :: (d1, o1) :: (d2, o2) :: (d3, o3) :: (L + 1 + 1 + 1 + 1, cb) :: (L + 1 + 1 + 1, c3) :: (L + 1, c1) :: (91, tB) :: []))
    (ib : ob.IsDictOf (intKind PySem.Challenge.rw_pq0156_01.row.toRowW.prog w) kb) (i1 : o1.IsDictOf (intKind PySem.Challenge.rw_pq0156_01.row.toRowW.prog w) k1) (i2 : o2.IsDictOf (intKind PySem.Challenge.rw_pq0156_01.row.toRowW.prog w) k2) (i3 : o3.IsDictOf (intKind PySem.Challenge.rw_pq0156_01.row.toRowW.prog w) k3)
    (tb : KV kb (merL v1 v2)) (t1 : KV k1 v1) (t2 : KV k2 v2) (t3 : KV k3 v3) (zb : kb.length ≤ 8) (z1 : k1.length ≤ 4) (z2 : k2.length ≤ 4) (z3 : k3.length ≤ 4) (mb' : (bd == sysModules) = false) (m1 : (d1 == sysModules) = false) (m2 : (d2 == sysModules) = false) (m3 : (d3 == sysModules) = false)
    (e1 : c1.data = .cell (some (.ref d1))) (e3 : c3.data = .cell (some (.ref d2))) (e4 : cb.data = .cell (some (.ref bd))) (hthird : m (Str.ofString "third") = some (.ref d3)) :
    wpAny (model PySem.Challenge.rw_pq0156_01.row.toRowW.prog w) (callerA.deeper (lawE L fa)) (exec (lawNth 8) (lawE L fa))
      (fun f s₂ => f = .next ∧ ExitN G L s (fun m' nw => m' = m ∧ nw = (bd, ob) :: (kd, okd) :: (a3, q3) :: (a2, q2) :: (a1, q1) :: (d1, o1) :: (d2, o2) :: (d3, o3) :: (L + 1 + 1 + 1 + 1, cb) :: (L + 1 + 1 + 1, c3) :: (L + 1, c1) :: (91, tB) :: []) s₂) E s := by
  revert X; k_fill; intro X
  unfold lawE
  conv in lawNth 8 => whnf
  conv in (occs := *) scopeOf lawDef => all_goals whnf
  have nk1 := nk_of i1 t1
  have nk2 := nk_of i2 t2
  have nkb := nk_of ib tb
  have hnd : (kb.map (·.1)).Nodup := let ⟨_, _, _, _, _, _, h⟩ := ib; h
  iterate 2 (first | (k_unfold; (try dsimp only)) | walk1)
  k_dflt (refine ListComp_TD (F₀ := F) (by with_unfolding_all rfl) (by decide) (by rfl) (by decide) (by rfl) ?_)
  iterate 1 walk1
  refine ⟨bd, ob, kb, _, rfl, rfl, mb', F, N, .head _, ib, by rw [sizeLine_eq]; omega, fun s₂ he => ?_⟩
  obtain ⟨g, rfl⟩ := he
  refine rest_false (.head _) (fun i v I oI C oC D m₂ h tk E' hP hC hx F2 N2 => ?_) ?_
  · obtain ⟨k, x, hkx, hv⟩ := hP
    obtain ⟨t, rfl⟩ := Value.isInt_shape hv
    obtain ⟨r, tr, rfl, hdr⟩ := tb.get hkx
    have hvb : valueAt kb k = some (.str r tr) := valueAt_get hnd hkx
    have hlk := look_mem nkb (List.mem_of_getElem? hdr)
    rw [look_mer _ nk2] at hlk
    clear N F
    cases hl2 : look v2 k with
    | some r2 =>
      rw [hl2] at hlk
      obtain rfl := Option.some.inj hlk
      obtain ⟨u2, hu2⟩ := t2.value hl2
      have hi2 : (valueAt k2 k).isSome = true := by rw [hu2]; rfl
      k_steps
      · exact F2
      · exact N2
    | none =>
      rw [hl2] at hlk
      obtain ⟨u1, hu1⟩ := t1.value hlk
      have hi2 : (valueAt k2 k).isSome = false := by rw [t2.none hl2]; rfl
      k_steps
      · exact F2
      · exact N2
  k_steps
  exact ExitN.intro (by k_asm) (by assumption) (fun p hp => by walk_at "mine sub") ⟨rfl, rfl⟩
end
end Mine
end

-- part S10
section
open PySem PySem.W PySem.Calls PyProof.Rows PySem.W.X LCg
set_option maxRecDepth 100000
set_option maxHeartbeats 4000000
namespace Mine
section
variable {w : World} {p : Program} {loose : List Str} {mean : ExcName → Option Value} {mg mb : Str → Option Value} {G : Heap} {L fa : Addr} {m : Str → Option Value} {s : Shared} {E : Value → Shared → Prop}

theorem afresh_S10 : True := by
  w_top off
  k_with_none
  trivial
theorem lines1_S10 : True := by
  k_with "mine look" => (first | assumption | exact if_pos rfl | (refine (if_neg (by decide)).trans ?_; walk_at "mine look") | rfl)
  k_with "eval Name" => ((k_here; k_dflt (refine' nameX_L ?z2F ?z2v ?_ ?z2a ?z2b; (case z2F => k_asm); (case z2a => rfl); (case z2b => rfl); (case z2v => walk_at "mine look"); k_whole)))
  k_with "mine split" => (repeat (with_reducible rename _ ∧ _ => hAnd; obtain ⟨_, _⟩ := hAnd))
  k_with "mine ne" => (first | with_reducible assumption | (refine Ne.symm ?_; with_reducible assumption) | (refine Nat.ne_of_lt ?_; with_reducible assumption) | (refine Nat.ne_of_gt ?_; with_reducible assumption) | exact up_ne 0 rfl | exact up_ne 1 rfl | exact up_ne 2 rfl | exact up_ne 3 rfl | exact up_ne 4 rfl | exact Ne.symm (up_ne 0 rfl) | exact Ne.symm (up_ne 1 rfl) | exact Ne.symm (up_ne 2 rfl) | exact Ne.symm (up_ne 3 rfl) | exact Ne.symm (up_ne 4 rfl))
  k_with "mine k_ne" => ((refine neN ?_; (try dsimp only); walk_at "mine split"; walk_at "mine ne"))
  k_with "mine k_room" => (ktr_room)
  k_with "mine sub" => (first | with_reducible assumption | assumption | (refine List.Mem.tail _ ?_; walk_at "mine sub"))
  k_with "call ref" => ((k_here; k_dflt (refine' merged_spec ?z8k1 ?z8k2 ?z8k3 ?z8k4 ?z8k5 ?z8k6 ?z8hp ?z8hq ?z8lp ?z8lq ?z8op ?z8oq ?z8vp ?z8vq ?z8zp ?z8zq ?_; (case z8k1 => k_asm); (case z8k2 => k_asm); (case z8k3 => k_asm); (case z8k4 => k_asm); (case z8k5 => k_asm); (case z8k6 => first | ktr_room | decide); (case z8hp => k_mem); (case z8hq => k_mem); (case z8lp => assumption); (case z8lq => assumption); (case z8op => assumption); (case z8oq => assumption); (case z8vp => first | assumption | exact KV.nil); (case z8vq => first | assumption | exact KV.nil); (case z8zp => first | omega | (simp only [List.length_nil]; omega)); (case z8zq => first | omega | (simp only [List.length_nil]; omega)); k_whole); intro _ _ _ _ _ _ _ _ _ ne' _ _; (replace ne' := off_of ne'); (simp only [Off, and_true] at ne'); (try k_sweep)))
  k_with "compareOp NotEq ref ref" => ((k_here; k_dflt (refine ne_dicts (by k_asm) (by k_mem) (by k_mem) (by assumption) (by assumption) (by assumption) (by assumption) (by assumption) (by assumption) (by ke_room) (by first | exact mer_twice (by assumption) | exact mer_nil_l (by assumption) | exact mer_assoc (by assumption) (by assumption) | exact fun _ => rfl) ?_)))
  trivial
theorem law_s10 {bd d1 d2 d3 kd a1 a2 a3 : Addr} {ob o1 o2 o3 okd q1 q2 q3 cb c3 c1 tB : Obj} {kb k1 k2 k3 : List (Int × Value)} {v1 v2 v3 : List (Int × Str)}
    (K : Below callerA G [] G) (X : (hd.heap_39 w.params).In G) (T : Top p loose mean mg mb G) (F : Fr G L s.heap m)
    (N : News G L s.heap ((bd, ob) :: (kd, okd) :: (a3, q3) :: (a2, q2) :: (a1, q1) :: (d1, o1) :: (d2, o2) :: (d3, o3) :: (L + 1 + 1 + 1 + 1, cb) :: (L + 1 + 1 + 1, c3) :: (L + 1, c1) :: (91, tB) :: []))
    (ib : ob.IsDictOf (intKind PySem.Challenge.rw_pq0156_01.row.toRowW.prog w) kb) (i1 : o1.IsDictOf (intKind PySem.Challenge.rw_pq0156_01.row.toRowW.prog w) k1) (i2 : o2.IsDictOf (intKind PySem.Challenge.rw_pq0156_01.row.toRowW.prog w) k2) (i3 : o3.IsDictOf (intKind PySem.Challenge.rw_pq0156_01.row.toRowW.prog w) k3)
    (tb : KV kb (merL v1 v2)) (t1 : KV k1 v1) (t2 : KV k2 v2) (t3 : KV k3 v3) (zb : kb.length ≤ 8) (z1 : k1.length ≤ 4) (z2 : k2.length ≤ 4) (z3 : k3.length ≤ 4) (mb' : (bd == sysModules) = false) (m1 : (d1 == sysModules) = false) (m2 : (d2 == sysModules) = false) (m3 : (d3 == sysModules) = false)
    (e1 : c1.data = .cell (some (.ref d1))) (e3 : c3.data = .cell (some (.ref d2))) (e4 : cb.data = .cell (some (.ref bd))) (hthird : m (Str.ofString "third") = some (.ref d3)) :
    wpAny (model PySem.Challenge.rw_pq0156_01.row.toRowW.prog w) (callerA.deeper (lawE L fa)) (exec (lawNth 9) (lawE L fa))
      (fun f s₂ => f = .next ∧ ExitN G L s (fun m' nw => m' = m ∧ nw = (bd, ob) :: (kd, okd) :: (a3, q3) :: (a2, q2) :: (a1, q1) :: (d1, o1) :: (d2, o2) :: (d3, o3) :: (L + 1 + 1 + 1 + 1, cb) :: (L + 1 + 1 + 1, c3) :: (L + 1, c1) :: (91, tB) :: []) s₂) E s := by
  revert X; k_fill; intro X
  unfold lawE
  conv in lawNth 9 => whnf
  conv in (occs := *) scopeOf lawDef => all_goals whnf
  have nk1 := nk_of i1 t1
  have nk2 := nk_of i2 t2
  have nk3 := nk_of i3 t3
  k_steps
  rename News _ _ _ _ => NN
  exact ExitN.intro (by k_asm) NN (fun p hp => by walk_at "mine sub") ⟨rfl, rfl⟩
end
end Mine
end

-- part S11
section
open PySem PySem.W PySem.Calls PyProof.Rows PySem.W.X LCg
set_option maxRecDepth 100000
set_option maxHeartbeats 4000000
namespace Mine
section
variable {w : World} {p : Program} {loose : List Str} {mean : ExcName → Option Value} {mg mb : Str → Option Value} {G : Heap} {L fa : Addr} {m : Str → Option Value} {s : Shared} {E : Value → Shared → Prop}

theorem afresh_S11 : True := by
  w_top off
  k_with_none
  trivial
theorem lines1_S11 : True := by
  k_with "mine look" => (first | assumption | exact if_pos rfl | (refine (if_neg (by decide)).trans ?_; walk_at "mine look") | rfl)
  k_with "eval Name" => ((k_here; k_dflt (refine' nameX_L ?z2F ?z2v ?_ ?z2a ?z2b; (case z2F => k_asm); (case z2a => rfl); (case z2b => rfl); (case z2v => walk_at "mine look"); k_whole)))
  k_with "mine split" => (repeat (with_reducible rename _ ∧ _ => hAnd; obtain ⟨_, _⟩ := hAnd))
  k_with "mine ne" => (first | with_reducible assumption | (refine Ne.symm ?_; with_reducible assumption) | (refine Nat.ne_of_lt ?_; with_reducible assumption) | (refine Nat.ne_of_gt ?_; with_reducible assumption) | exact up_ne 0 rfl | exact up_ne 1 rfl | exact up_ne 2 rfl | exact up_ne 3 rfl | exact up_ne 4 rfl | exact Ne.symm (up_ne 0 rfl) | exact Ne.symm (up_ne 1 rfl) | exact Ne.symm (up_ne 2 rfl) | exact Ne.symm (up_ne 3 rfl) | exact Ne.symm (up_ne 4 rfl))
  k_with "mine k_ne" => ((refine neN ?_; (try dsimp only); walk_at "mine split"; walk_at "mine ne"))
  k_with "mine k_room" => (ktr_room)
  k_with "mine sub" => (first | with_reducible assumption | assumption | (refine List.Mem.tail _ ?_; walk_at "mine sub"))
  k_with "call ref" => ((k_here; k_dflt (refine' merged_spec ?z8k1 ?z8k2 ?z8k3 ?z8k4 ?z8k5 ?z8k6 ?z8hp ?z8hq ?z8lp ?z8lq ?z8op ?z8oq ?z8vp ?z8vq ?z8zp ?z8zq ?_; (case z8k1 => k_asm); (case z8k2 => k_asm); (case z8k3 => k_asm); (case z8k4 => k_asm); (case z8k5 => k_asm); (case z8k6 => first | ktr_room | decide); (case z8hp => k_mem); (case z8hq => k_mem); (case z8lp => assumption); (case z8lq => assumption); (case z8op => assumption); (case z8oq => assumption); (case z8vp => first | assumption | exact KV.nil); (case z8vq => first | assumption | exact KV.nil); (case z8zp => first | omega | (simp only [List.length_nil]; omega)); (case z8zq => first | omega | (simp only [List.length_nil]; omega)); k_whole); intro _ _ _ _ _ _ _ _ _ ne' _ _; (replace ne' := off_of ne'); (simp only [Off, and_true] at ne'); (try k_sweep)))
  k_with "compareOp NotEq ref ref" => ((k_here; k_dflt (refine ne_dicts (by k_asm) (by k_mem) (by k_mem) (by assumption) (by assumption) (by assumption) (by assumption) (by assumption) (by assumption) (by ke_room) (by first | exact mer_twice (by assumption) | exact mer_nil_l (by assumption) | exact mer_assoc (by assumption) (by assumption) | exact fun _ => rfl) ?_)))
  trivial
theorem law_s11 {bd d1 d2 d3 kd a1 a2 a3 : Addr} {ob o1 o2 o3 okd q1 q2 q3 cb c3 c1 tB : Obj} {kb k1 k2 k3 : List (Int × Value)} {v1 v2 v3 : List (Int × Str)}
    (K : Below callerA G [] G) (X : (hd.heap_39 w.params).In G) (T : Top p loose mean mg mb G) (F : Fr G L s.heap m)
    (N : News G L s.heap ((bd, ob) :: (kd, okd) :: (a3, q3) :: (a2, q2) :: (a1, q1) :: (d1, o1) :: (d2, o2) :: (d3, o3) :: (L + 1 + 1 + 1 + 1, cb) :: (L + 1 + 1 + 1, c3) :: (L + 1, c1) :: (91, tB) :: []))
    (ib : ob.IsDictOf (intKind PySem.Challenge.rw_pq0156_01.row.toRowW.prog w) kb) (i1 : o1.IsDictOf (intKind PySem.Challenge.rw_pq0156_01.row.toRowW.prog w) k1) (i2 : o2.IsDictOf (intKind PySem.Challenge.rw_pq0156_01.row.toRowW.prog w) k2) (i3 : o3.IsDictOf (intKind PySem.Challenge.rw_pq0156_01.row.toRowW.prog w) k3)
    (tb : KV kb (merL v1 v2)) (t1 : KV k1 v1) (t2 : KV k2 v2) (t3 : KV k3 v3) (zb : kb.length ≤ 8) (z1 : k1.length ≤ 4) (z2 : k2.length ≤ 4) (z3 : k3.length ≤ 4) (mb' : (bd == sysModules) = false) (m1 : (d1 == sysModules) = false) (m2 : (d2 == sysModules) = false) (m3 : (d3 == sysModules) = false)
    (e1 : c1.data = .cell (some (.ref d1))) (e3 : c3.data = .cell (some (.ref d2))) (e4 : cb.data = .cell (some (.ref bd))) (hthird : m (Str.ofString "third") = some (.ref d3)) :
    wpAny (model PySem.Challenge.rw_pq0156_01.row.toRowW.prog w) (callerA.deeper (lawE L fa)) (exec (lawNth 10) (lawE L fa))
      (fun f s₂ => f = .next ∧ ExitN G L s (fun m' nw => m' = m ∧ nw = (bd, ob) :: (kd, okd) :: (a3, q3) :: (a2, q2) :: (a1, q1) :: (d1, o1) :: (d2, o2) :: (d3, o3) :: (L + 1 + 1 + 1 + 1, cb) :: (L + 1 + 1 + 1, c3) :: (L + 1, c1) :: (91, tB) :: []) s₂) E s := by
  revert X; k_fill; intro X
  unfold lawE
  conv in lawNth 10 => whnf
  conv in (occs := *) scopeOf lawDef => all_goals whnf
  have nk1 := nk_of i1 t1
  have nk2 := nk_of i2 t2
  have nk3 := nk_of i3 t3
  k_steps
  rename News _ _ _ _ => NN
  exact ExitN.intro (by k_asm) NN (fun p hp => by walk_at "mine sub") ⟨rfl, rfl⟩
end
end Mine
end

-- part S12
section
open PySem PySem.W PySem.Calls PyProof.Rows PySem.W.X LCg
set_option maxRecDepth 100000
set_option maxHeartbeats 4000000
namespace Mine
section
variable {w : World} {p : Program} {loose : List Str} {mean : ExcName → Option Value} {mg mb : Str → Option Value} {G : Heap} {L fa : Addr} {m : Str → Option Value} {s : Shared} {E : Value → Shared → Prop}

theorem afresh_S12 : True := by
  w_top off
  k_with_none
  trivial
theorem lines1_S12 : True := by
  k_with "mine look" => (first | assumption | exact if_pos rfl | (refine (if_neg (by decide)).trans ?_; walk_at "mine look") | rfl)
  k_with "eval Name" => ((k_here; k_dflt (refine' nameX_L ?z2F ?z2v ?_ ?z2a ?z2b; (case z2F => k_asm); (case z2a => rfl); (case z2b => rfl); (case z2v => walk_at "mine look"); k_whole)))
  k_with "mine split" => (repeat (with_reducible rename _ ∧ _ => hAnd; obtain ⟨_, _⟩ := hAnd))
  k_with "mine ne" => (first | with_reducible assumption | (refine Ne.symm ?_; with_reducible assumption) | (refine Nat.ne_of_lt ?_; with_reducible assumption) | (refine Nat.ne_of_gt ?_; with_reducible assumption) | exact up_ne 0 rfl | exact up_ne 1 rfl | exact up_ne 2 rfl | exact up_ne 3 rfl | exact up_ne 4 rfl | exact Ne.symm (up_ne 0 rfl) | exact Ne.symm (up_ne 1 rfl) | exact Ne.symm (up_ne 2 rfl) | exact Ne.symm (up_ne 3 rfl) | exact Ne.symm (up_ne 4 rfl))
  k_with "mine k_ne" => ((refine neN ?_; (try dsimp only); walk_at "mine split"; walk_at "mine ne"))
  k_with "mine k_room" => (ktr_room)
  k_with "mine sub" => (first | with_reducible assumption | assumption | (refine List.Mem.tail _ ?_; walk_at "mine sub"))
  k_with "call ref" => ((k_here; k_dflt (refine' merged_spec ?z8k1 ?z8k2 ?z8k3 ?z8k4 ?z8k5 ?z8k6 ?z8hp ?z8hq ?z8lp ?z8lq ?z8op ?z8oq ?z8vp ?z8vq ?z8zp ?z8zq ?_; (case z8k1 => k_asm); (case z8k2 => k_asm); (case z8k3 => k_asm); (case z8k4 => k_asm); (case z8k5 => k_asm); (case z8k6 => first | ktr_room | decide); (case z8hp => k_mem); (case z8hq => k_mem); (case z8lp => assumption); (case z8lq => assumption); (case z8op => assumption); (case z8oq => assumption); (case z8vp => first | assumption | exact KV.nil); (case z8vq => first | assumption | exact KV.nil); (case z8zp => first | omega | (simp only [List.length_nil]; omega)); (case z8zq => first | omega | (simp only [List.length_nil]; omega)); k_whole); intro _ _ _ _ _ _ _ _ _ ne' _ _; (replace ne' := off_of ne'); (simp only [Off, and_true] at ne'); (try k_sweep)))
  k_with "compareOp NotEq ref ref" => ((k_here; k_dflt (refine ne_dicts (by k_asm) (by k_mem) (by k_mem) (by assumption) (by assumption) (by assumption) (by assumption) (by assumption) (by assumption) (by ke_room) (by first | exact mer_twice (by assumption) | exact mer_nil_l (by assumption) | exact mer_assoc (by assumption) (by assumption) | exact fun _ => rfl) ?_)))
  trivial
theorem law_s12 {bd d1 d2 d3 kd a1 a2 a3 : Addr} {ob o1 o2 o3 okd q1 q2 q3 cb c3 c1 tB : Obj} {kb k1 k2 k3 : List (Int × Value)} {v1 v2 v3 : List (Int × Str)}
    (K : Below callerA G [] G) (X : (hd.heap_39 w.params).In G) (T : Top p loose mean mg mb G) (F : Fr G L s.heap m)
    (N : News G L s.heap ((bd, ob) :: (kd, okd) :: (a3, q3) :: (a2, q2) :: (a1, q1) :: (d1, o1) :: (d2, o2) :: (d3, o3) :: (L + 1 + 1 + 1 + 1, cb) :: (L + 1 + 1 + 1, c3) :: (L + 1, c1) :: (91, tB) :: []))
    (ib : ob.IsDictOf (intKind PySem.Challenge.rw_pq0156_01.row.toRowW.prog w) kb) (i1 : o1.IsDictOf (intKind PySem.Challenge.rw_pq0156_01.row.toRowW.prog w) k1) (i2 : o2.IsDictOf (intKind PySem.Challenge.rw_pq0156_01.row.toRowW.prog w) k2) (i3 : o3.IsDictOf (intKind PySem.Challenge.rw_pq0156_01.row.toRowW.prog w) k3)
    (tb : KV kb (merL v1 v2)) (t1 : KV k1 v1) (t2 : KV k2 v2) (t3 : KV k3 v3) (zb : kb.length ≤ 8) (z1 : k1.length ≤ 4) (z2 : k2.length ≤ 4) (z3 : k3.length ≤ 4) (mb' : (bd == sysModules) = false) (m1 : (d1 == sysModules) = false) (m2 : (d2 == sysModules) = false) (m3 : (d3 == sysModules) = false)
    (e1 : c1.data = .cell (some (.ref d1))) (e3 : c3.data = .cell (some (.ref d2))) (e4 : cb.data = .cell (some (.ref bd))) (hthird : m (Str.ofString "third") = some (.ref d3)) (hk : okd = PySem.W.listOf #[.ref a1, .ref a2, .ref a3] 0) (j1 : q1.IsDictOf (intKind PySem.Challenge.rw_pq0156_01.row.toRowW.prog w) k1) (j2 : q2.IsDictOf (intKind PySem.Challenge.rw_pq0156_01.row.toRowW.prog w) k2) (j3 : q3.IsDictOf (intKind PySem.Challenge.rw_pq0156_01.row.toRowW.prog w) k3)
    (b1 : (a1 == sysModules) = false) (b2 : (a2 == sysModules) = false) (b3 : (a3 == sysModules) = false) (hkept : m (Str.ofString "kept") = some (.ref kd)) :
    wpAny (model PySem.Challenge.rw_pq0156_01.row.toRowW.prog w) (callerA.deeper (lawE L fa)) (exec (lawNth 11) (lawE L fa))
      (fun f s₂ => f = .ret (.bool true) ∧ ExitN G L s (fun _ nw => nw = [(91, tB)]) s₂) E s := by
  revert X; k_fill; intro X
  unfold lawE
  conv in lawNth 11 => whnf
  conv in (occs := *) scopeOf lawDef => all_goals whnf
  subst hk
  k_steps
  have ne' := trivial
  rename_i l h1 F1 N1 hlt
  have hl : h1.IsList l #[.ref d1, .ref d2, .ref d3] := ⟨_, N1.get (.head _), rfl, _, rfl⟩
  have hr : h1.IsList kd #[.ref a1, .ref a2, .ref a3] := ⟨_, N1.get (.tail _ (.tail _ (.head _))), rfl, _, rfl⟩
  have x1 : SeqAt.EqAt (callerA.deeper (lawE L fa)).in1 { s with heap := h1 } (.ref d1) (.ref a1) true := eqAt_dicts N1 (by k_mem) (by k_mem) i1 j1 m1 b1 t1 t1 (by ke_room) (fun _ => rfl)
  have x2 : SeqAt.EqAt (callerA.deeper (lawE L fa)).in1 { s with heap := h1 } (.ref d2) (.ref a2) true := eqAt_dicts N1 (by k_mem) (by k_mem) i2 j2 m2 b2 t2 t2 (by ke_room) (fun _ => rfl)
  have x3 : SeqAt.EqAt (callerA.deeper (lawE L fa)).in1 { s with heap := h1 } (.ref d3) (.ref a3) true := eqAt_dicts N1 (by k_mem) (by k_mem) i3 j3 m3 b3 t3 t3 (by ke_room) (fun _ => rfl)
  refine SeqAt.eq_listAt (e := fun _ => true) hl hr rfl (by ke_room) (fun j g1 g2 => ?_) ?_
  · have hj : j = 0 ∨ j = 1 ∨ j = 2 := by
      have : j < 3 := g1
      omega
    rcases hj with rfl | rfl | rfl
    · exact x1
    · exact x2
    · exact x3
  · exact ⟨rfl, ExitN.intro F1 N1 (fun p hp => by rw [List.mem_singleton.mp hp]; k_mem) rfl⟩
end
end Mine
end

-- part J1
section
open PySem PySem.W PySem.Calls PyProof.Rows PySem.W.X LCg
set_option maxRecDepth 100000
set_option maxHeartbeats 4000000
namespace Mine
theorem afresh_J1 : True := by
  w_top off
  k_with_none
  trivial
section
variable {w : World} {p : Program} {loose : List Str} {mean : ExcName → Option Value} {mg mb : Str → Option Value} {G : Heap} {L fa : Addr} {m : Str → Option Value} {s : Shared} {E : Value → Shared → Prop}
theorem law_parts : bodyOf lawDef = [lawNth 0, lawNth 1, lawNth 2, lawNth 3, lawNth 4, lawNth 5, lawNth 6, lawNth 7, lawNth 8, lawNth 9, lawNth 10, lawNth 11] := rfl
theorem law_body {ws : Addr} {vs : List Value} {script : List Int} {w5 w4 w3 w2 w1 w0 : Obj} {x5 x4 x3 x2 x1 x0 : Option Value} {Q : Flow → Shared → Prop}
    (K : Below callerA G [] G) (X : (hd.heap_39 w.params).In G) (T : Top p loose mean mg mb G) (C : CodeHd G 93 91) (F : Fr G L s.heap m)
    (N : News G L s.heap [(L + 1 + 1 + 1 + 1 + 1 + 1, w5), (L + 1 + 1 + 1 + 1 + 1, w4), (L + 1 + 1 + 1 + 1, w3), (L + 1 + 1 + 1, w2), (L + 1 + 1, w1), (L + 1, w0), (91, tabObj #[])])
    (e5 : w5.data = .cell x5) (e4 : w4.data = .cell x4) (e3 : w3.data = .cell x3) (e2 : w2.data = .cell x2) (e1 : w1.data = .cell x1) (e0 : w0.data = .cell x0) (l0 : @LT.lt Nat _ 91 L)
    (hm : m (Str.ofString "script") = some (.ref ws)) (hl : G.IsList ws vs.toArray) (hI : IntsAre vs script) (h63 : ¬ 63 < script.length)
    (hE : PassesOwn (model PySem.Challenge.rw_pq0156_01.row.toRowW.prog w) (callerA.deeper (lawE L fa)) (lawE L fa) E)
    (hQ : ∀ h tk m' ps, Fr G L h m' → News G L h [(91, tabObj ps)] → Q (.ret (.bool true)) { s with heap := h, toks := tk }) :
    wpAny (model PySem.Challenge.rw_pq0156_01.row.toRowW.prog w) (callerA.deeper (lawE L fa)) (execs (bodyOf lawDef) (lawE L fa)) Q E s := by
  rw [law_parts]
  have l9 := up_lt l0
  refine cut_seq _ (law_s1 K X T F N e1 l0 hm hl hI h63) ?_
  rintro h1 tk1 m1 nw F1 N1 ⟨sd, rl, os, ol, ns, cs, hS, hR, hne, hne2, hcs, rfl⟩
  refine cut_seq _ (law_s2 K X T F1 N1 e5 l0 hS hR hne hne2 hcs) ?_
  rintro h2 tk2 m2 nw F2 N2 ⟨sd, rd, dd, os, od, cs, cr, rs, vs, k, hS, hk0, hk1, hy, hlr, hs, hdue, hod, lod, hcr, hcs, rfl, hA⟩
  simp only [Apart, Off, and_true] at hA
  obtain ⟨⟨a1, a2, a3, a4, a5, a6, a7, a8, a9, a10⟩, ⟨b1, b2, b3, b4, b5, b6, b7, b8, b9⟩, ⟨c1, c2, c3, c4, c5, c6, c7, c8⟩, ⟨d1, d2, d3, d4, d5, d6, d7⟩, ⟨f1, f2, f3, f4, f5, f6⟩, ⟨g1, g2, g3, g4, g5⟩, ⟨i1, i2, i3, i4⟩, ⟨j1, j2, j3⟩, ⟨k1, k2⟩, q1⟩ := hA
  have hrest : ∀ p ∈ ([(sd, os), (rl, ol), (L + 1 + 1, cs), (L + 1 + 1 + 1 + 1, w3), (L + 1 + 1 + 1, w2), (L + 1, w0)] : List (Addr × Obj)), p.1 ≠ L + 1 + 1 + 1 + 1 + 1 ∧ p.1 ≠ dd ∧ p.1 ≠ 91 := fun p hp => by
    simp only [List.mem_cons, List.not_mem_nil, or_false] at hp
    rcases hp with h | h | h | h | h | h <;> rw [h]
    · exact ⟨d1, b3, Ne.symm f6⟩
    · exact ⟨d2, b4, Ne.symm g5⟩
    · exact ⟨d3, b5, Ne.symm i4⟩
    · exact ⟨d4, b6, Ne.symm j3⟩
    · exact ⟨d5, b7, Ne.symm k2⟩
    · exact ⟨d6, b8, Ne.symm q1⟩
  have N2' : News G L h2 ((91, tabObj #[]) :: (rd, lst vs) :: (dd, od) :: (L + 1 + 1 + 1 + 1 + 1 + 1, cr) :: (L + 1 + 1 + 1 + 1 + 1, w4) :: [(sd, os), (rl, ol), (L + 1 + 1, cs), (L + 1 + 1 + 1 + 1, w3), (L + 1 + 1 + 1, w2), (L + 1, w0)]) := fun p hp => by
    rcases List.mem_cons.mp hp with h | hp
    · exact N2 p (by rw [h]; k_mem)
    · simp only [List.mem_cons, List.not_mem_nil, or_false] at hp
      rcases hp with h | h | h | h | h | h | h | h | h | h <;> exact N2 p (by rw [h]; k_mem)
  refine cut_seq _ (law_s3 K X T C F2 N2' e4 hy hlr hs hdue hod lod hcr (Ne.symm a1) (Ne.symm a3) (Ne.symm b2) (Ne.symm b1) (fun p hp => (hrest p hp).1) (fun p hp => (hrest p hp).2.1) l0 (Ne.symm a10) (Ne.symm b9) (fun p hp => (hrest p hp).2.2) hE) ?_
  rintro h3 tk3 m3 nw F3 N3 ⟨od3, c53, x53, hc53, hT, hD⟩
  refine cut_seq _ (law_s4 K X T C F3 N3 hT hD hy hlr hs lod hcr l0 (Ne.symm a10) (Ne.symm b9) (fun p hp => (hrest p hp).2.2)) ?_
  rintro h4 tk4 m4 nw F4 N4 ⟨ps, rfl⟩
  have N4' : News G L h4 ((sd, os) :: (rl, ol) :: (L + 1 + 1, cs) :: (L + 1 + 1 + 1 + 1, w3) :: (L + 1 + 1 + 1, w2) :: (L + 1, w0) :: (91, tabObj ps) :: []) := fun p hp => by
    simp only [List.mem_cons, List.not_mem_nil, or_false] at hp
    rcases hp with h | h | h | h | h | h | h <;> exact N4 p (by rw [h]; k_mem)
  refine cut_seq _ (law_s5 K X T F4 N4' hcs e2 e0 l0 hS hk0 hk1 hR ?_) ?_
  · intro p hp
    simp only [List.mem_cons, List.not_mem_nil, or_false] at hp
    rcases hp with h | h | h | h | h | h <;> rw [h]
    · exact f1
    · exact f2
    · exact f3
    · exact f4
    · exact f5
    · exact f6
  rintro h5 tk5 m5 nw F5 N5 ⟨p1, p2, p3, o1, o2, o3, cc1, cc3, P1, P2, P3, hc1, hc3, hth, rfl, hA2⟩
  simp only [Apart, Off, and_true] at hA2
  obtain ⟨⟨_, _, r1, _⟩, ⟨_, r2, _⟩, ⟨r3, _⟩, _⟩ := hA2
  obtain ⟨k1, v1, I1, V1, KS1, Z1, M1⟩ := P1
  obtain ⟨k2, v2, I2, V2, KS2, Z2, M2⟩ := P2
  obtain ⟨k3, v3, I3, V3, KS3, Z3, M3⟩ := P3
  refine cut_seq _ (law_s6 K X T F5 N5 I1 I2 I3 Z1 Z2 Z3 M1 M2 M3 hc1 hc3 hth) ?_
  rintro h6 tk6 m6 nw F6 N6 ⟨kd, aa1, aa2, aa3, q1, q2, q3, J1, J2, J3, B1, B2, B3, hkept, hth6, s1, s2, s3, s4, rfl⟩
  refine cut_seq _ (law_s7 l0 K X T F6 N6 I1 I2 V1 V2 Z1 Z2 M1 M2 s1 s4 s3 s2 (Ne.symm r1) (Ne.symm r2) (Ne.symm r3) hc1 hc3 e3) ?_
  rintro h7 tk7 m7 nw F7 N7 ⟨rfl, bd, ob, cb, kb, IB, VB, ZB, MB, hcb, rfl⟩
  refine cut_seq _ (law_s8 K X T F7 N7 IB I1 I2 I3 VB V1 V2 V3 ZB Z1 Z2 Z3 MB M1 M2 M3 hc1 hc3 hcb KS1 KS2 hth6) ?_
  rintro h8 tk8 m8 nw F8 N8 ⟨rfl, rfl⟩
  refine cut_seq _ (law_s9 K X T F8 N8 IB I1 I2 I3 VB V1 V2 V3 ZB Z1 Z2 Z3 MB M1 M2 M3 hc1 hc3 hcb hth6) ?_
  rintro h9 tk9 m9 nw F9 N9 ⟨rfl, rfl⟩
  refine cut_seq _ (law_s10 K X T F9 N9 IB I1 I2 I3 VB V1 V2 V3 ZB Z1 Z2 Z3 MB M1 M2 M3 hc1 hc3 hcb hth6) ?_
  rintro h10 tk10 m10 nw F10 N10 ⟨rfl, rfl⟩
  refine cut_seq _ (law_s11 K X T F10 N10 IB I1 I2 I3 VB V1 V2 V3 ZB Z1 Z2 Z3 MB M1 M2 M3 hc1 hc3 hcb hth6) ?_
  rintro h11 tk11 m11 nw F11 N11 ⟨rfl, rfl⟩
  refine wpAny_execs_cons (wpAny_mono (law_s12 K X T F11 N11 IB I1 I2 I3 VB V1 V2 V3 ZB Z1 Z2 Z3 MB M1 M2 M3 hc1 hc3 hcb hth6 rfl J1 J2 J3 B1 B2 B3 hkept) (fun f s₂ h => ?_) fun _ _ e => e)
  obtain ⟨rfl, h12, tk12, m12, nw, rfl, F12, N12, rfl⟩ := h
  exact hQ _ _ _ ps F12 N12
end
end Mine
end

-- part J2
section
open PySem PySem.W PySem.Calls PyProof.Rows PySem.W.X LCg
set_option maxRecDepth 100000
set_option maxHeartbeats 8000000
namespace Mine
theorem afresh_J2 : True := by
  w_top off
  k_with_none
  trivial
theorem holds : PySem.Challenge.rw_pq0156_01.Holds := hd (by
  k_go0
  rename World => w
  rename News _ _ _ _ => N0
  rename Top topProg _ _ _ _ _ => T0
  rename Fr _ _ _ _ => F0
  rename List Int => script
  rename IntsAre _ _ => hI
  rename Below _ _ _ _ => K0
  rename Heap.IsList (ghostOf _ _) _ _ => hL
  rename CodeHd _ _ _ => C0
  rename Frag.In _ _ => X0
  rename 91 < _ => l0
  rename ¬ ((63 : Nat) : Int) < _ => h63
  rename_i w5 w4 w3 w2 w1 w0 e1 e2 e3 e4 e5 e6 XC
  refine law_body (script := script) K0 X0 T0 C0 F0 N0 e1 e2 e3 e4 e5 e6 l0 rfl hL hI ?h63 ?hE ?hQ
  case h63 => omega
  case hE => walk1
  case hQ =>
    intro h tk m' ps F N
    refine ⟨?_, ?_⟩
    all_goals k_steps

    all_goals skip)
end Mine
end

end

set_option maxRecDepth 100000 in
theorem PySem.Challenge.cw_pq0156_01_holds : PySem.Challenge.rw_pq0156_01.Holds := by
  exact Mine.holds
